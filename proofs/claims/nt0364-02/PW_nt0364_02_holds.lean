import PyProof.Rows.All
import Wide.All
import OpenK.AllK
import Wide.FinOn
import PySem.Challenge.RW_nt0364_02
noncomputable section
namespace Mine
theorem via {G : Prop} (h : ∀ R : Prop, (G → R) → R) : G := h G id
section
set_option Elab.async false
set_option autoImplicit false
set_option linter.unusedVariables false
set_option genSizeOf false
set_option backward.match.sparseCases false
set_option genInjectivity false
set_option tactic.hygienic false
open PySem
inductive Fld where
  | kind | text | depth | frames | steps | loops | ic | ml | left | waiting
  deriving DecidableEq
inductive Cls where
  | fail | limits | pcode | search
  deriving DecidableEq
inductive Op2 where
  | add | sub | mul | fdiv | mod
  deriving DecidableEq
inductive OpC where
  | eq | ne | lt | le | gt | ge | is | isNot | isIn
  deriving DecidableEq
inductive Bi where
  | len | abs | int | ord | chr | any | isinstance | list | tuple | range | zip | min
  deriving DecidableEq
inductive Me where
  | append | pop | extend | get
  deriving DecidableEq
inductive AV where
  | none | bool (b : Bool) | int (i : Int) | str (cs : List Nat)
  | tup (xs : List AV) | lst (xs : List AV) | row (xs : List AV)
  | dct (kvs : List (Int × AV))
  | obj (i : Nat)
  | fn (k : Nat)
  | cls (c : Cls)
  | bi (b : Bi)
inductive AObj where
  | list (xs : List AV)
  | inst (c : Cls) (fs : Fld → Option AV)
noncomputable abbrev AH := List AObj
noncomputable abbrev AM (α : Type) := AH → Option (α × AH)
noncomputable abbrev AF := List (Option AV)
noncomputable def apure {α : Type} (a : α) : AM α := fun H => some (a, H)
noncomputable def abind {α β : Type} (m : AM α) (f : α → AM β) : AM β := fun H => match m H with
  | some p => f p.1 p.2
  | none => none
noncomputable def afail {α : Type} : AM α := fun q_ => none
noncomputable def aopt {α : Type} (o : Option α) : AM α := fun H => match o with
  | some a => some (a, H)
  | none => none
noncomputable def truthA : AV → Option Bool
  | .bool b => some b
  | _ => none
noncomputable def toInt : AV → Option Int
  | .int i => some i
  | _ => none
noncomputable def toStr : AV → Option (List Nat)
  | .str s => some s
  | _ => none
noncomputable def toTup : AV → Option (List AV)
  | .tup xs => some xs
  | _ => none
noncomputable def toLst : AV → Option (List AV)
  | .lst xs => some xs
  | _ => none
noncomputable def toObj : AV → Option Nat
  | .obj n => some n
  | _ => none
noncomputable def aif (b : Prop) [Decidable b] {α : Type} (x : α) : Option α := if b then some x else none
noncomputable def AV.isNone : AV → Bool
  | .none => true
  | _ => false
noncomputable def sames (f : AV → AV → Bool) : List AV → List AV → Bool
  | [], [] => true
  | x :: xs, y :: ys => f x y && sames f xs ys
  | _, _ => false
noncomputable def same : Nat → AV → AV → Bool
  | 0, _, _ => false
  | n + 1, x, y => match x with
    | .none => y.isNone
    | .bool a => decide (truthA y = some a)
    | .int a => decide (toInt y = some a)
    | .str a => decide (toStr y = some a)
    | .tup a => (toTup y).any (sames (same n) a)
    | .lst a => (toLst y).any (sames (same n) a)
    | _ => false
noncomputable def aeq (x y : AV) : Option Bool := match x with
  | .bool a => (truthA y).map fun b => a == b
  | .int a => (toInt y).map fun b => decide (a = b)
  | .str a => (toStr y).map fun b => decide (a = b)
  | .none => aif (y.isNone = true) true
  | .tup a => match y with
    | .str _ => some false
    | .tup b => aif (same 5 (.tup a) (.tup b) = true) true
    | _ => none
  | _ => none
noncomputable def ints? : List AV → Option (List Int)
  | [] => some []
  | .int i :: r => (ints? r).map (i :: ·)
  | _ => none
noncomputable def strs? : List AV → Option (List (List Nat))
  | [] => some []
  | .str s :: r => (strs? r).map (s :: ·)
  | _ => none
noncomputable def inInt (i : Int) : AV → Option Bool
  | .lst xs => (ints? xs).map fun l => l.any fun j => decide (i = j)
  | .tup xs => (ints? xs).map fun l => l.any fun j => decide (i = j)
  | .dct kvs => some (kvs.any fun p => decide (i = p.1))
  | _ => none
noncomputable def inStr (s : List Nat) : AV → Option Bool
  | .tup xs => (strs? xs).map fun l => l.any fun t => decide (s = t)
  | .str t => match s with
    | [c] => some (t.any fun d => decide (c = d))
    | _ => none
  | _ => none
noncomputable def ain (x y : AV) : Option Bool := match x with
  | .int i => inInt i y
  | .str s => inStr s y
  | _ => none
noncomputable def cmpI (f : Int → Int → Bool) (x y : AV) : Option Bool := (toInt x).bind fun a => (toInt y).map fun b => f a b
noncomputable def acmp (o : OpC) (x y : AV) : Option Bool := match o with
  | .eq => aeq x y
  | .ne => (aeq x y).map (!·)
  | .lt => cmpI (fun a b => decide (a < b)) x y
  | .le => cmpI (fun a b => decide (a ≤ b)) x y
  | .gt => cmpI (fun a b => decide (b < a)) x y
  | .ge => cmpI (fun a b => decide (b ≤ a)) x y
  | .is => aif (y.isNone = true) x.isNone
  | .isNot => aif (y.isNone = true) (!x.isNone)
  | .isIn => ain x y
noncomputable def bits : Int := 2 ^ 62
noncomputable def small (i : Int) : Bool := decide (-bits < i) && decide (i < bits)
noncomputable def line : Nat := 2 ^ 20
noncomputable def rep {α : Type} (xs : List α) (n : Int) : List α := (List.replicate n.toNat xs).flatten
noncomputable def fits (a b : Nat) : Bool := decide (a + b ≤ line)
noncomputable def addA (x y : AV) : Option AV := match x with
  | .int a => (toInt y).map fun b => .int (a + b)
  | .str a => (toStr y).bind fun b => aif (a.length + b.length ≤ line) (.str (a ++ b))
  | .tup a => (toTup y).bind fun b => aif (a.length + b.length ≤ line) (.tup (a ++ b))
  | .lst a => (toLst y).bind fun b => aif (a.length + b.length ≤ line) (.lst (a ++ b))
  | _ => none
noncomputable def few (a : Nat) (n : Int) : Bool := decide (a ≤ 8) && decide (n ≤ 1000) && decide (0 ≤ n)
noncomputable def mulA (x y : AV) : Option AV := (toInt y).bind fun n => match x with
  | .int a => aif (-(2 ^ 63) < n ∧ n < 2 ^ 63) (.int (a * n))
  | .tup a => aif (few a.length n = true) (.tup (rep a n))
  | .lst a => aif (few a.length n = true) (.lst (rep a n))
  | .str a => aif (few a.length n = true) (.str (rep a n))
  | _ => none
noncomputable def intOp (f : Int → Int → Option Int) (x y : AV) : Option AV := (toInt x).bind fun a => (toInt y).bind fun b => (f a b).map .int
noncomputable def abin (o : Op2) (x y : AV) : Option AV := match o with
  | .add => addA x y
  | .sub => intOp (fun a b => some (a - b)) x y
  | .mul => mulA x y
  | .fdiv => intOp (fun a b => aif (0 < b ∧ b < 1000000000) (a / b)) x y
  | .mod => intOp (fun a b => aif (0 < b) (a % b)) x y
noncomputable def at? {α : Type} (xs : List α) (i : Int) : Option α :=
  if 0 ≤ i then (if i < 2 ^ 62 then xs[i.toNat]? else none) else if -(xs.length : Int) ≤ i ∧ -1000 ≤ i then xs[(i + xs.length).toNat]? else none
noncomputable def listAt (H : AH) (n : Nat) : Option (List AV) := match H[n]? with
  | some (.list xs) => some xs
  | _ => none
noncomputable def asub (H : AH) (x k : AV) : Option AV := (toInt k).bind fun i => match x with
  | .tup xs => at? xs i
  | .lst xs => at? xs i
  | .str cs => if 0 ≤ i then (at? cs i).map fun c => .str [c] else none
  | .dct kvs => (kvs.find? fun p => decide (i = p.1)).map (·.2)
  | .obj n => (listAt H n).bind fun xs => at? xs i
  | _ => none
noncomputable def part : AV → Option (Option Int)
  | .none => some none
  | .int i => if -1 ≤ i && decide (i < 2 ^ 62) then some (some i) else none
  | _ => none
noncomputable def clip (n : Nat) (d : Nat) (p : Option Int) : Nat := p.elim d (clipAt n)
noncomputable def cut {α : Type} (xs : List α) (lo hi : Option Int) : List α :=
  (xs.take (clip xs.length xs.length hi)).drop (clip xs.length 0 lo)
noncomputable def aslc (H : AH) (v lo hi : AV) : Option AV := (part lo).bind fun l => (part hi).bind fun h => match v with
  | .tup xs => aif (xs.length ≤ line) (.tup (cut xs l h))
  | .lst xs => aif (xs.length ≤ line) (.lst (cut xs l h))
  | .row xs => aif (xs.length ≤ line) (.lst (cut xs l h))
  | .str cs => aif (cs.length ≤ line) (.str (cut cs l h))
  | .obj n => (listAt H n).bind fun xs => aif (xs.length ≤ line) (.lst (cut xs l h))
  | _ => none
noncomputable def bools? : List AV → Option (List Bool)
  | [] => some []
  | .bool b :: r => (bools? r).map (b :: ·)
  | _ => none
noncomputable def one : List AV → Option AV
  | [x] => some x
  | _ => none
noncomputable def two : List AV → Option (AV × AV)
  | [x, y] => some (x, y)
  | _ => none
noncomputable def lenA (H : AH) : AV → Option Nat
  | .tup xs => some xs.length
  | .lst xs => some xs.length
  | .str cs => some cs.length
  | .obj n => (listAt H n).map (·.length)
  | _ => none
noncomputable def isTupA : AV → Option Bool
  | .tup _ => some true
  | .none => some false
  | .bool _ => some false
  | .int _ => some false
  | .str _ => some false
  | _ => none
noncomputable def intA : AV → Option Int
  | .int i => some i
  | .bool b => some (if b then 1 else 0)
  | _ => none
noncomputable def ordA : List Nat → Option Nat
  | [c] => some c
  | _ => none
noncomputable def isTupleTy : AV → Bool
  | .bi .tuple => true
  | _ => false
noncomputable def abi (H : AH) (b : Bi) (xs : List AV) : Option AV := match b with
  | .len => (one xs).bind fun x => (lenA H x).bind fun n => aif (n ≤ line) (.int n)
  | .abs => (one xs).bind fun x => (toInt x).map fun i => .int i.natAbs
  | .int => (one xs).bind fun x => (intA x).map .int
  | .ord => (one xs).bind fun x => (toStr x).bind fun s => (ordA s).map fun c : Nat => AV.int (c : Int)
  | .chr => (one xs).bind fun x => (toInt x).bind fun i => aif (0 ≤ i ∧ i < 55296) (.str [i.toNat])
  | .any => (one xs).bind fun x => (toLst x).bind fun l => (bools? l).map fun l => .bool (l.any id)
  | .isinstance => (two xs).bind fun p => aif (isTupleTy p.2 = true) () |>.bind fun q_ => (isTupA p.1).map .bool
  | .list => (one xs).bind fun x => (toTup x).bind fun l => aif (l.length ≤ line) (.lst l)
  | .tuple => (one xs).bind fun x => (toLst x).bind fun l => aif (l.length ≤ line) (.tup l)
  | .min => (two xs).bind fun p => (toInt p.1).bind fun a => (toInt p.2).map fun b => .int (if b < a then b else a)
  | _ => none
noncomputable def setObj (H : AH) (n : Nat) (o : AObj) : AH := H.set n o
noncomputable def alist (x : AV) : AM (Nat × List AV) := fun H => (toObj x).bind fun n => (listAt H n).map fun xs => ((n, xs), H)
noncomputable def aputL (n : Nat) (xs : List AV) : AM Unit := fun H => some ((), setObj H n (.list xs))
noncomputable def ame (m : Me) (x : AV) (as : List AV) : AM AV := match m with
  | .append => abind (aopt (one as)) fun v => abind (alist x) fun p => abind (aopt (aif (p.2.length < line) ())) fun q_ => abind (aputL p.1 (p.2 ++ [v])) fun q_ => apure .none
  | .pop => abind (aopt (aif (as = []) ())) fun q_ => abind (alist x) fun p => abind (aopt p.2.getLast?) fun v => abind (aopt (aif (p.2.length ≤ line) ())) fun q_ => abind (aputL p.1 p.2.dropLast) fun q_ => apure v
  | .extend => abind (aopt (one as)) fun v => abind (aopt (toTup v)) fun ys => abind (alist x) fun p => abind (aopt (aif (p.2.length + ys.length < line) ())) fun q_ => abind (aputL p.1 (p.2 ++ ys)) fun q_ => apure .none
  | .get => afail
noncomputable def ofList : Me → Bool
  | .get => false
  | _ => true
noncomputable def amty (m : Me) (x : AV) : AM Unit := if ofList m then abind (alist x) fun q_ => apure () else afail
inductive Flo where
  | next | ret (v : AV)
structure Glo where
  val : Nat → Option AV
  mth : Cls → Nat → Option Nat
  ini : Cls → Option Nat
noncomputable def capsOf (F : AF) : List (Nat × Nat) → Option (List (Nat × AV))
  | [] => some []
  | (o, i) :: r => match F[o]?, capsOf F r with
    | some (some v), some l => some ((i, v) :: l)
    | _, _ => none
noncomputable def putCaps (F : AF) : List (Nat × AV) → AF
  | [] => F
  | (i, v) :: r => putCaps (F.set i (some v)) r
noncomputable def frameOf (names np : Nat) (args : List AV) (caps : List (Nat × AV)) : Option AF :=
  if args.length = np then some (putCaps ((args.map some) ++ List.replicate (names - np) none) caps) else none
section
variable (G : Glo) (call : AV → List AV → AM AV) (W : Nat)
noncomputable def aiterOf : AV → Option (List AV)
  | .tup xs => some xs
  | .lst xs => some xs
  | .str cs => some (cs.map fun c => .str [c])
  | .dct kvs => if decide (kvs.map (·.1)).Nodup then some (kvs.map fun p => .int p.1) else none
  | _ => none
noncomputable def rangeOf (a b : Int) : List AV := (List.range (b - a).toNat).map fun i : Nat => .int (a + (i : Int))
noncomputable def zipOf (a b : List AV) : List AV := (a.zip b).map fun p => .tup [p.1, p.2]
end
noncomputable def asets : List Nat → List AV → AF → AF
  | i :: is, x :: xs, F => asets is xs (F.set i (some x))
  | _, _, F => F
noncomputable def acomp (f : AV → AM (Option AV)) : List AV → AM (List AV)
  | [] => apure []
  | x :: r => abind (f x) fun o => abind (acomp f r) fun l => apure (match o with
    | some v => v :: l
    | none => l)
noncomputable def athen (k : AF → AM (Flo × AF)) (p : Flo × AF) : AM (Flo × AF) := @Flo.rec (fun q_ => AM (Flo × AF)) (k p.2) (fun v => apure (.ret v, p.2)) p.1
noncomputable def Flo.val : Flo → AV
  | .next => .none
  | .ret v => v
noncomputable def afor (f : AV → AF → AM (Flo × AF)) (xs : List AV) : AF → AM (Flo × AF) := @List.rec AV (fun q_ => AF → AM (Flo × AF)) (fun F => apure (.next, F)) (fun x q_ ih F => abind (f x F) fun p => athen ih p) xs
noncomputable def awhile (t : AF → AM Bool) (f : AF → AM (Flo × AF)) (n : Nat) : AF → AM (Flo × AF) := @Nat.rec (fun q_ => AF → AM (Flo × AF)) (fun q_ => afail) (fun q_ ih F => abind (t F) fun b => cond b (abind (f F) fun p => athen ih p) (apure (.next, F))) n
theorem awhile_succ {t : AF → AM Bool} {f : AF → AM (Flo × AF)} {n : Nat} {F : AF} : awhile t f (n + 1) F = abind (t F) fun b => cond b (abind (f F) fun p => athen (awhile t f n) p) (apure (.next, F)) := rfl
theorem afor_cons {f : AV → AF → AM (Flo × AF)} {x : AV} {r : List AV} {F : AF} : afor f (x :: r) F = abind (f x F) fun p => athen (afor f r) p := rfl
noncomputable def nth (F : AF) (i : Nat) : Option AV := @List.rec (Option AV) (fun q_ => Nat → Option AV) (fun q_ => none) (fun a q_ ih i => @Nat.rec (fun q_ => Option AV) a (fun j q_ => ih j) i) F i
noncomputable def setN (F : AF) (i : Nat) (v : Option AV) : AF := @List.rec (Option AV) (fun q_ => Nat → AF) (fun q_ => []) (fun a r ih i => @Nat.rec (fun q_ => AF) (v :: r) (fun j q_ => a :: ih j) i) F i
theorem nth_eq : ∀ (F : AF) (i : Nat), nth F i = F[i]?.join
  | [], _ => rfl
  | _ :: _, 0 => rfl
  | _ :: F, i + 1 => nth_eq F i
theorem setN_eq (v : Option AV) : ∀ (F : AF) (i : Nat), setN F i v = F.set i v
  | [], _ => rfl
  | _ :: _, 0 => rfl
  | a :: F, i + 1 => congrArg (a :: ·) (setN_eq v F i)
noncomputable def aforL (n : Nat) (f : AV → AF → AM (Flo × AF)) : Nat → Nat → AF → AM (Flo × AF)
  | 0, _, _ => afail
  | m + 1, k, F => abind (alist (.obj n)) fun q => match q.2[k]? with
    | some x => abind (f x F) fun p => athen (aforL n f m (k + 1)) p
    | none => apure (.next, F)
noncomputable def instAt (H : AH) (n : Nat) : Option (Cls × (Fld → Option AV)) := match H[n]? with
  | some (.inst c fs) => if c = .fail then none else some (c, fs)
  | _ => none
noncomputable def ainst (x : AV) : AM (Nat × Cls × (Fld → Option AV)) := fun H => (toObj x).bind fun n => (instAt H n).map fun p => ((n, p), H)
noncomputable def aputI (n : Nat) (c : Cls) (fs : Fld → Option AV) : AM Unit := fun H => some ((), setObj H n (.inst c fs))
noncomputable def agetA (v : AV) (f : Fld) : AM AV := abind (ainst v) fun p => aopt (p.2.2 f)
noncomputable def asetA (v : AV) (f : Fld) (x : AV) : AM Unit := abind (ainst v) fun p => aputI p.1 p.2.1 fun g => if g = f then some x else p.2.2 g
noncomputable def asetI (v : AV) (k : AV) (x : AV) : AM Unit := abind (aopt (toInt k)) fun i => abind (alist v) fun p => abind (aopt (aif (0 ≤ i ∧ i < (p.2.length : Int) ∧ i < 2 ^ 62) ())) fun q_ => aputL p.1 (p.2.set i.toNat x)
noncomputable def anewL (xs : List AV) : AM AV := fun H => some (.obj H.length, H ++ [.list xs])
noncomputable def amk (mu : Bool) (xs : List AV) : AM AV := if mu then anewL xs else apure (.lst xs)
noncomputable def aclsOf (v : AV) : AM Cls := abind (ainst v) fun p => apure p.2.1
section
variable (G : Glo) (call : AV → List AV → AM AV) (W : Nat)
noncomputable def AV.isLimits : AV → Bool
  | .cls .limits => true
  | _ => false
noncomputable def aread (f : AH → Option AV) : AM AV := fun H => (f H).map fun v => (v, H)
noncomputable def acallB (f : AV) (args : List AV) : AM AV := match f with
  | .bi b => aread fun H => abi H b args
  | .fn _ => call f args
  | .cls c => if c = .limits ∧ args ≠ [] then afail else call f args
  | _ => afail
end
noncomputable def anewI (c : Cls) : AM AV := fun H => some (.obj H.length, H ++ [.inst c fun q_ => none])
noncomputable def iniArgs : Cls → List AV → List AV
  | .limits, [] => [.int 40, .int 200, .int (10 ^ 9), .int (10 ^ 6)]
  | .limits, [v] => [.int 40, .int 200, v, .int (10 ^ 6)]
  | _, xs => xs
end
section
set_option Elab.async false
set_option autoImplicit false
set_option genSizeOf false
set_option backward.match.sparseCases false
set_option linter.unusedVariables false
set_option tactic.hygienic false
set_option genInjectivity false
open PySem
theorem bad {P : Prop} (h : false = true) : P := Bool.noConfusion h
theorem dite_i {c : Prop} {d : Decidable c} {f : c → Bool} (h : (if h : c then f h else false) = true) : ∃ h : c, f h = true := by
  cases d with
  | isTrue q => exact ⟨q, h⟩
  | isFalse q => exact bad h
noncomputable def onBoolOp (f : BoolOp → (List Expr) → Pos → Bool) (x : Expr) : Bool := if h : x.ctorIdx = 0 then Expr.BoolOp.elim (motive_1 := fun q_ => Bool) x h f else false
theorem onBoolOp_i {f : BoolOp → (List Expr) → Pos → Bool} {x : Expr} (h : onBoolOp f x = true) : ∃ a0 a1 a2, x = Expr.BoolOp a0 a1 a2 ∧ f a0 a1 a2 = true := by
  obtain ⟨hi, h⟩ := dite_i h
  exact Expr.BoolOp.elim (motive_1 := fun y => ∀ hi : y.ctorIdx = 0, Expr.BoolOp.elim (motive_1 := fun q_ => Bool) y hi f = true → ∃ a0 a1 a2, y = Expr.BoolOp a0 a1 a2 ∧ f a0 a1 a2 = true) x hi (fun a0 a1 a2 q_ h => ⟨a0, a1, a2, rfl, h⟩) hi h
@[elab_as_elim] theorem onBoolOp_e {f : BoolOp → (List Expr) → Pos → Bool} {x : Expr} {C : Expr → Prop} (h : onBoolOp f x = true) (k : ∀ a0 a1 a2, f a0 a1 a2 = true → C (Expr.BoolOp a0 a1 a2)) : C x := by
  obtain ⟨a0, a1, a2, rfl, h⟩ := onBoolOp_i h
  exact k a0 a1 a2 h
noncomputable def onBinOp (f : Expr → Operator → Expr → Pos → Bool) (x : Expr) : Bool := if h : x.ctorIdx = 2 then Expr.BinOp.elim (motive_1 := fun q_ => Bool) x h f else false
theorem onBinOp_i {f : Expr → Operator → Expr → Pos → Bool} {x : Expr} (h : onBinOp f x = true) : ∃ a0 a1 a2 a3, x = Expr.BinOp a0 a1 a2 a3 ∧ f a0 a1 a2 a3 = true := by
  obtain ⟨hi, h⟩ := dite_i h
  exact Expr.BinOp.elim (motive_1 := fun y => ∀ hi : y.ctorIdx = 2, Expr.BinOp.elim (motive_1 := fun q_ => Bool) y hi f = true → ∃ a0 a1 a2 a3, y = Expr.BinOp a0 a1 a2 a3 ∧ f a0 a1 a2 a3 = true) x hi (fun a0 a1 a2 a3 q_ h => ⟨a0, a1, a2, a3, rfl, h⟩) hi h
@[elab_as_elim] theorem onBinOp_e {f : Expr → Operator → Expr → Pos → Bool} {x : Expr} {C : Expr → Prop} (h : onBinOp f x = true) (k : ∀ a0 a1 a2 a3, f a0 a1 a2 a3 = true → C (Expr.BinOp a0 a1 a2 a3)) : C x := by
  obtain ⟨a0, a1, a2, a3, rfl, h⟩ := onBinOp_i h
  exact k a0 a1 a2 a3 h
noncomputable def onUnaryOp (f : UnaryOp → Expr → Pos → Bool) (x : Expr) : Bool := if h : x.ctorIdx = 3 then Expr.UnaryOp.elim (motive_1 := fun q_ => Bool) x h f else false
theorem onUnaryOp_i {f : UnaryOp → Expr → Pos → Bool} {x : Expr} (h : onUnaryOp f x = true) : ∃ a0 a1 a2, x = Expr.UnaryOp a0 a1 a2 ∧ f a0 a1 a2 = true := by
  obtain ⟨hi, h⟩ := dite_i h
  exact Expr.UnaryOp.elim (motive_1 := fun y => ∀ hi : y.ctorIdx = 3, Expr.UnaryOp.elim (motive_1 := fun q_ => Bool) y hi f = true → ∃ a0 a1 a2, y = Expr.UnaryOp a0 a1 a2 ∧ f a0 a1 a2 = true) x hi (fun a0 a1 a2 q_ h => ⟨a0, a1, a2, rfl, h⟩) hi h
@[elab_as_elim] theorem onUnaryOp_e {f : UnaryOp → Expr → Pos → Bool} {x : Expr} {C : Expr → Prop} (h : onUnaryOp f x = true) (k : ∀ a0 a1 a2, f a0 a1 a2 = true → C (Expr.UnaryOp a0 a1 a2)) : C x := by
  obtain ⟨a0, a1, a2, rfl, h⟩ := onUnaryOp_i h
  exact k a0 a1 a2 h
noncomputable def onIfExp (f : Expr → Expr → Expr → Pos → Bool) (x : Expr) : Bool := if h : x.ctorIdx = 5 then Expr.IfExp.elim (motive_1 := fun q_ => Bool) x h f else false
theorem onIfExp_i {f : Expr → Expr → Expr → Pos → Bool} {x : Expr} (h : onIfExp f x = true) : ∃ a0 a1 a2 a3, x = Expr.IfExp a0 a1 a2 a3 ∧ f a0 a1 a2 a3 = true := by
  obtain ⟨hi, h⟩ := dite_i h
  exact Expr.IfExp.elim (motive_1 := fun y => ∀ hi : y.ctorIdx = 5, Expr.IfExp.elim (motive_1 := fun q_ => Bool) y hi f = true → ∃ a0 a1 a2 a3, y = Expr.IfExp a0 a1 a2 a3 ∧ f a0 a1 a2 a3 = true) x hi (fun a0 a1 a2 a3 q_ h => ⟨a0, a1, a2, a3, rfl, h⟩) hi h
@[elab_as_elim] theorem onIfExp_e {f : Expr → Expr → Expr → Pos → Bool} {x : Expr} {C : Expr → Prop} (h : onIfExp f x = true) (k : ∀ a0 a1 a2 a3, f a0 a1 a2 a3 = true → C (Expr.IfExp a0 a1 a2 a3)) : C x := by
  obtain ⟨a0, a1, a2, a3, rfl, h⟩ := onIfExp_i h
  exact k a0 a1 a2 a3 h
noncomputable def onDict (f : (List (Option Expr)) → (List Expr) → Pos → Bool) (x : Expr) : Bool := if h : x.ctorIdx = 6 then Expr.Dict.elim (motive_1 := fun q_ => Bool) x h f else false
theorem onDict_i {f : (List (Option Expr)) → (List Expr) → Pos → Bool} {x : Expr} (h : onDict f x = true) : ∃ a0 a1 a2, x = Expr.Dict a0 a1 a2 ∧ f a0 a1 a2 = true := by
  obtain ⟨hi, h⟩ := dite_i h
  exact Expr.Dict.elim (motive_1 := fun y => ∀ hi : y.ctorIdx = 6, Expr.Dict.elim (motive_1 := fun q_ => Bool) y hi f = true → ∃ a0 a1 a2, y = Expr.Dict a0 a1 a2 ∧ f a0 a1 a2 = true) x hi (fun a0 a1 a2 q_ h => ⟨a0, a1, a2, rfl, h⟩) hi h
@[elab_as_elim] theorem onDict_e {f : (List (Option Expr)) → (List Expr) → Pos → Bool} {x : Expr} {C : Expr → Prop} (h : onDict f x = true) (k : ∀ a0 a1 a2, f a0 a1 a2 = true → C (Expr.Dict a0 a1 a2)) : C x := by
  obtain ⟨a0, a1, a2, rfl, h⟩ := onDict_i h
  exact k a0 a1 a2 h
noncomputable def onSet (f : (List Expr) → Nat → Pos → Bool) (x : Expr) : Bool := if h : x.ctorIdx = 7 then Expr.Set.elim (motive_1 := fun q_ => Bool) x h f else false
theorem onSet_i {f : (List Expr) → Nat → Pos → Bool} {x : Expr} (h : onSet f x = true) : ∃ a0 a1 a2, x = Expr.Set a0 a1 a2 ∧ f a0 a1 a2 = true := by
  obtain ⟨hi, h⟩ := dite_i h
  exact Expr.Set.elim (motive_1 := fun y => ∀ hi : y.ctorIdx = 7, Expr.Set.elim (motive_1 := fun q_ => Bool) y hi f = true → ∃ a0 a1 a2, y = Expr.Set a0 a1 a2 ∧ f a0 a1 a2 = true) x hi (fun a0 a1 a2 q_ h => ⟨a0, a1, a2, rfl, h⟩) hi h
@[elab_as_elim] theorem onSet_e {f : (List Expr) → Nat → Pos → Bool} {x : Expr} {C : Expr → Prop} (h : onSet f x = true) (k : ∀ a0 a1 a2, f a0 a1 a2 = true → C (Expr.Set a0 a1 a2)) : C x := by
  obtain ⟨a0, a1, a2, rfl, h⟩ := onSet_i h
  exact k a0 a1 a2 h
noncomputable def onListComp (f : Expr → (List Comprehension) → Scope → Pos → Bool) (x : Expr) : Bool := if h : x.ctorIdx = 8 then Expr.ListComp.elim (motive_1 := fun q_ => Bool) x h f else false
theorem onListComp_i {f : Expr → (List Comprehension) → Scope → Pos → Bool} {x : Expr} (h : onListComp f x = true) : ∃ a0 a1 a2 a3, x = Expr.ListComp a0 a1 a2 a3 ∧ f a0 a1 a2 a3 = true := by
  obtain ⟨hi, h⟩ := dite_i h
  exact Expr.ListComp.elim (motive_1 := fun y => ∀ hi : y.ctorIdx = 8, Expr.ListComp.elim (motive_1 := fun q_ => Bool) y hi f = true → ∃ a0 a1 a2 a3, y = Expr.ListComp a0 a1 a2 a3 ∧ f a0 a1 a2 a3 = true) x hi (fun a0 a1 a2 a3 q_ h => ⟨a0, a1, a2, a3, rfl, h⟩) hi h
@[elab_as_elim] theorem onListComp_e {f : Expr → (List Comprehension) → Scope → Pos → Bool} {x : Expr} {C : Expr → Prop} (h : onListComp f x = true) (k : ∀ a0 a1 a2 a3, f a0 a1 a2 a3 = true → C (Expr.ListComp a0 a1 a2 a3)) : C x := by
  obtain ⟨a0, a1, a2, a3, rfl, h⟩ := onListComp_i h
  exact k a0 a1 a2 a3 h
noncomputable def onSetComp (f : Expr → (List Comprehension) → Scope → Pos → Bool) (x : Expr) : Bool := if h : x.ctorIdx = 9 then Expr.SetComp.elim (motive_1 := fun q_ => Bool) x h f else false
theorem onSetComp_i {f : Expr → (List Comprehension) → Scope → Pos → Bool} {x : Expr} (h : onSetComp f x = true) : ∃ a0 a1 a2 a3, x = Expr.SetComp a0 a1 a2 a3 ∧ f a0 a1 a2 a3 = true := by
  obtain ⟨hi, h⟩ := dite_i h
  exact Expr.SetComp.elim (motive_1 := fun y => ∀ hi : y.ctorIdx = 9, Expr.SetComp.elim (motive_1 := fun q_ => Bool) y hi f = true → ∃ a0 a1 a2 a3, y = Expr.SetComp a0 a1 a2 a3 ∧ f a0 a1 a2 a3 = true) x hi (fun a0 a1 a2 a3 q_ h => ⟨a0, a1, a2, a3, rfl, h⟩) hi h
@[elab_as_elim] theorem onSetComp_e {f : Expr → (List Comprehension) → Scope → Pos → Bool} {x : Expr} {C : Expr → Prop} (h : onSetComp f x = true) (k : ∀ a0 a1 a2 a3, f a0 a1 a2 a3 = true → C (Expr.SetComp a0 a1 a2 a3)) : C x := by
  obtain ⟨a0, a1, a2, a3, rfl, h⟩ := onSetComp_i h
  exact k a0 a1 a2 a3 h
noncomputable def onDictComp (f : Expr → Expr → (List Comprehension) → Scope → Pos → Bool) (x : Expr) : Bool := if h : x.ctorIdx = 10 then Expr.DictComp.elim (motive_1 := fun q_ => Bool) x h f else false
theorem onDictComp_i {f : Expr → Expr → (List Comprehension) → Scope → Pos → Bool} {x : Expr} (h : onDictComp f x = true) : ∃ a0 a1 a2 a3 a4, x = Expr.DictComp a0 a1 a2 a3 a4 ∧ f a0 a1 a2 a3 a4 = true := by
  obtain ⟨hi, h⟩ := dite_i h
  exact Expr.DictComp.elim (motive_1 := fun y => ∀ hi : y.ctorIdx = 10, Expr.DictComp.elim (motive_1 := fun q_ => Bool) y hi f = true → ∃ a0 a1 a2 a3 a4, y = Expr.DictComp a0 a1 a2 a3 a4 ∧ f a0 a1 a2 a3 a4 = true) x hi (fun a0 a1 a2 a3 a4 q_ h => ⟨a0, a1, a2, a3, a4, rfl, h⟩) hi h
@[elab_as_elim] theorem onDictComp_e {f : Expr → Expr → (List Comprehension) → Scope → Pos → Bool} {x : Expr} {C : Expr → Prop} (h : onDictComp f x = true) (k : ∀ a0 a1 a2 a3 a4, f a0 a1 a2 a3 a4 = true → C (Expr.DictComp a0 a1 a2 a3 a4)) : C x := by
  obtain ⟨a0, a1, a2, a3, a4, rfl, h⟩ := onDictComp_i h
  exact k a0 a1 a2 a3 a4 h
noncomputable def onCompare (f : Expr → (List CmpOp) → (List Expr) → Pos → Bool) (x : Expr) : Bool := if h : x.ctorIdx = 15 then Expr.Compare.elim (motive_1 := fun q_ => Bool) x h f else false
theorem onCompare_i {f : Expr → (List CmpOp) → (List Expr) → Pos → Bool} {x : Expr} (h : onCompare f x = true) : ∃ a0 a1 a2 a3, x = Expr.Compare a0 a1 a2 a3 ∧ f a0 a1 a2 a3 = true := by
  obtain ⟨hi, h⟩ := dite_i h
  exact Expr.Compare.elim (motive_1 := fun y => ∀ hi : y.ctorIdx = 15, Expr.Compare.elim (motive_1 := fun q_ => Bool) y hi f = true → ∃ a0 a1 a2 a3, y = Expr.Compare a0 a1 a2 a3 ∧ f a0 a1 a2 a3 = true) x hi (fun a0 a1 a2 a3 q_ h => ⟨a0, a1, a2, a3, rfl, h⟩) hi h
@[elab_as_elim] theorem onCompare_e {f : Expr → (List CmpOp) → (List Expr) → Pos → Bool} {x : Expr} {C : Expr → Prop} (h : onCompare f x = true) (k : ∀ a0 a1 a2 a3, f a0 a1 a2 a3 = true → C (Expr.Compare a0 a1 a2 a3)) : C x := by
  obtain ⟨a0, a1, a2, a3, rfl, h⟩ := onCompare_i h
  exact k a0 a1 a2 a3 h
noncomputable def onCall (f : Expr → (List Expr) → (List Keyword) → Pos → Bool) (x : Expr) : Bool := if h : x.ctorIdx = 16 then Expr.Call.elim (motive_1 := fun q_ => Bool) x h f else false
theorem onCall_i {f : Expr → (List Expr) → (List Keyword) → Pos → Bool} {x : Expr} (h : onCall f x = true) : ∃ a0 a1 a2 a3, x = Expr.Call a0 a1 a2 a3 ∧ f a0 a1 a2 a3 = true := by
  obtain ⟨hi, h⟩ := dite_i h
  exact Expr.Call.elim (motive_1 := fun y => ∀ hi : y.ctorIdx = 16, Expr.Call.elim (motive_1 := fun q_ => Bool) y hi f = true → ∃ a0 a1 a2 a3, y = Expr.Call a0 a1 a2 a3 ∧ f a0 a1 a2 a3 = true) x hi (fun a0 a1 a2 a3 q_ h => ⟨a0, a1, a2, a3, rfl, h⟩) hi h
@[elab_as_elim] theorem onCall_e {f : Expr → (List Expr) → (List Keyword) → Pos → Bool} {x : Expr} {C : Expr → Prop} (h : onCall f x = true) (k : ∀ a0 a1 a2 a3, f a0 a1 a2 a3 = true → C (Expr.Call a0 a1 a2 a3)) : C x := by
  obtain ⟨a0, a1, a2, a3, rfl, h⟩ := onCall_i h
  exact k a0 a1 a2 a3 h
noncomputable def onConstant (f : Const → Nat → Pos → Bool) (x : Expr) : Bool := if h : x.ctorIdx = 19 then Expr.Constant.elim (motive_1 := fun q_ => Bool) x h f else false
theorem onConstant_i {f : Const → Nat → Pos → Bool} {x : Expr} (h : onConstant f x = true) : ∃ a0 a1 a2, x = Expr.Constant a0 a1 a2 ∧ f a0 a1 a2 = true := by
  obtain ⟨hi, h⟩ := dite_i h
  exact Expr.Constant.elim (motive_1 := fun y => ∀ hi : y.ctorIdx = 19, Expr.Constant.elim (motive_1 := fun q_ => Bool) y hi f = true → ∃ a0 a1 a2, y = Expr.Constant a0 a1 a2 ∧ f a0 a1 a2 = true) x hi (fun a0 a1 a2 q_ h => ⟨a0, a1, a2, rfl, h⟩) hi h
@[elab_as_elim] theorem onConstant_e {f : Const → Nat → Pos → Bool} {x : Expr} {C : Expr → Prop} (h : onConstant f x = true) (k : ∀ a0 a1 a2, f a0 a1 a2 = true → C (Expr.Constant a0 a1 a2)) : C x := by
  obtain ⟨a0, a1, a2, rfl, h⟩ := onConstant_i h
  exact k a0 a1 a2 h
noncomputable def onAttribute (f : Expr → Str → Pos → Bool) (x : Expr) : Bool := if h : x.ctorIdx = 20 then Expr.Attribute.elim (motive_1 := fun q_ => Bool) x h f else false
theorem onAttribute_i {f : Expr → Str → Pos → Bool} {x : Expr} (h : onAttribute f x = true) : ∃ a0 a1 a2, x = Expr.Attribute a0 a1 a2 ∧ f a0 a1 a2 = true := by
  obtain ⟨hi, h⟩ := dite_i h
  exact Expr.Attribute.elim (motive_1 := fun y => ∀ hi : y.ctorIdx = 20, Expr.Attribute.elim (motive_1 := fun q_ => Bool) y hi f = true → ∃ a0 a1 a2, y = Expr.Attribute a0 a1 a2 ∧ f a0 a1 a2 = true) x hi (fun a0 a1 a2 q_ h => ⟨a0, a1, a2, rfl, h⟩) hi h
@[elab_as_elim] theorem onAttribute_e {f : Expr → Str → Pos → Bool} {x : Expr} {C : Expr → Prop} (h : onAttribute f x = true) (k : ∀ a0 a1 a2, f a0 a1 a2 = true → C (Expr.Attribute a0 a1 a2)) : C x := by
  obtain ⟨a0, a1, a2, rfl, h⟩ := onAttribute_i h
  exact k a0 a1 a2 h
noncomputable def onSubscript (f : Expr → Expr → Pos → Bool) (x : Expr) : Bool := if h : x.ctorIdx = 21 then Expr.Subscript.elim (motive_1 := fun q_ => Bool) x h f else false
theorem onSubscript_i {f : Expr → Expr → Pos → Bool} {x : Expr} (h : onSubscript f x = true) : ∃ a0 a1 a2, x = Expr.Subscript a0 a1 a2 ∧ f a0 a1 a2 = true := by
  obtain ⟨hi, h⟩ := dite_i h
  exact Expr.Subscript.elim (motive_1 := fun y => ∀ hi : y.ctorIdx = 21, Expr.Subscript.elim (motive_1 := fun q_ => Bool) y hi f = true → ∃ a0 a1 a2, y = Expr.Subscript a0 a1 a2 ∧ f a0 a1 a2 = true) x hi (fun a0 a1 a2 q_ h => ⟨a0, a1, a2, rfl, h⟩) hi h
@[elab_as_elim] theorem onSubscript_e {f : Expr → Expr → Pos → Bool} {x : Expr} {C : Expr → Prop} (h : onSubscript f x = true) (k : ∀ a0 a1 a2, f a0 a1 a2 = true → C (Expr.Subscript a0 a1 a2)) : C x := by
  obtain ⟨a0, a1, a2, rfl, h⟩ := onSubscript_i h
  exact k a0 a1 a2 h
noncomputable def onStarred (f : Expr → Pos → Bool) (x : Expr) : Bool := if h : x.ctorIdx = 22 then Expr.Starred.elim (motive_1 := fun q_ => Bool) x h f else false
theorem onStarred_i {f : Expr → Pos → Bool} {x : Expr} (h : onStarred f x = true) : ∃ a0 a1, x = Expr.Starred a0 a1 ∧ f a0 a1 = true := by
  obtain ⟨hi, h⟩ := dite_i h
  exact Expr.Starred.elim (motive_1 := fun y => ∀ hi : y.ctorIdx = 22, Expr.Starred.elim (motive_1 := fun q_ => Bool) y hi f = true → ∃ a0 a1, y = Expr.Starred a0 a1 ∧ f a0 a1 = true) x hi (fun a0 a1 q_ h => ⟨a0, a1, rfl, h⟩) hi h
@[elab_as_elim] theorem onStarred_e {f : Expr → Pos → Bool} {x : Expr} {C : Expr → Prop} (h : onStarred f x = true) (k : ∀ a0 a1, f a0 a1 = true → C (Expr.Starred a0 a1)) : C x := by
  obtain ⟨a0, a1, rfl, h⟩ := onStarred_i h
  exact k a0 a1 h
noncomputable def onName (f : Str → Pos → Bool) (x : Expr) : Bool := if h : x.ctorIdx = 23 then Expr.Name.elim (motive_1 := fun q_ => Bool) x h f else false
theorem onName_i {f : Str → Pos → Bool} {x : Expr} (h : onName f x = true) : ∃ a0 a1, x = Expr.Name a0 a1 ∧ f a0 a1 = true := by
  obtain ⟨hi, h⟩ := dite_i h
  exact Expr.Name.elim (motive_1 := fun y => ∀ hi : y.ctorIdx = 23, Expr.Name.elim (motive_1 := fun q_ => Bool) y hi f = true → ∃ a0 a1, y = Expr.Name a0 a1 ∧ f a0 a1 = true) x hi (fun a0 a1 q_ h => ⟨a0, a1, rfl, h⟩) hi h
@[elab_as_elim] theorem onName_e {f : Str → Pos → Bool} {x : Expr} {C : Expr → Prop} (h : onName f x = true) (k : ∀ a0 a1, f a0 a1 = true → C (Expr.Name a0 a1)) : C x := by
  obtain ⟨a0, a1, rfl, h⟩ := onName_i h
  exact k a0 a1 h
noncomputable def onList (f : (List Expr) → Pos → Bool) (x : Expr) : Bool := if h : x.ctorIdx = 24 then Expr.List.elim (motive_1 := fun q_ => Bool) x h f else false
theorem onList_i {f : (List Expr) → Pos → Bool} {x : Expr} (h : onList f x = true) : ∃ a0 a1, x = Expr.List a0 a1 ∧ f a0 a1 = true := by
  obtain ⟨hi, h⟩ := dite_i h
  exact Expr.List.elim (motive_1 := fun y => ∀ hi : y.ctorIdx = 24, Expr.List.elim (motive_1 := fun q_ => Bool) y hi f = true → ∃ a0 a1, y = Expr.List a0 a1 ∧ f a0 a1 = true) x hi (fun a0 a1 q_ h => ⟨a0, a1, rfl, h⟩) hi h
@[elab_as_elim] theorem onList_e {f : (List Expr) → Pos → Bool} {x : Expr} {C : Expr → Prop} (h : onList f x = true) (k : ∀ a0 a1, f a0 a1 = true → C (Expr.List a0 a1)) : C x := by
  obtain ⟨a0, a1, rfl, h⟩ := onList_i h
  exact k a0 a1 h
noncomputable def onTuple (f : (List Expr) → Nat → Pos → Bool) (x : Expr) : Bool := if h : x.ctorIdx = 25 then Expr.Tuple.elim (motive_1 := fun q_ => Bool) x h f else false
theorem onTuple_i {f : (List Expr) → Nat → Pos → Bool} {x : Expr} (h : onTuple f x = true) : ∃ a0 a1 a2, x = Expr.Tuple a0 a1 a2 ∧ f a0 a1 a2 = true := by
  obtain ⟨hi, h⟩ := dite_i h
  exact Expr.Tuple.elim (motive_1 := fun y => ∀ hi : y.ctorIdx = 25, Expr.Tuple.elim (motive_1 := fun q_ => Bool) y hi f = true → ∃ a0 a1 a2, y = Expr.Tuple a0 a1 a2 ∧ f a0 a1 a2 = true) x hi (fun a0 a1 a2 q_ h => ⟨a0, a1, a2, rfl, h⟩) hi h
@[elab_as_elim] theorem onTuple_e {f : (List Expr) → Nat → Pos → Bool} {x : Expr} {C : Expr → Prop} (h : onTuple f x = true) (k : ∀ a0 a1 a2, f a0 a1 a2 = true → C (Expr.Tuple a0 a1 a2)) : C x := by
  obtain ⟨a0, a1, a2, rfl, h⟩ := onTuple_i h
  exact k a0 a1 a2 h
noncomputable def onSlice (f : (Option Expr) → (Option Expr) → (Option Expr) → Pos → Bool) (x : Expr) : Bool := if h : x.ctorIdx = 26 then Expr.Slice.elim (motive_1 := fun q_ => Bool) x h f else false
theorem onSlice_i {f : (Option Expr) → (Option Expr) → (Option Expr) → Pos → Bool} {x : Expr} (h : onSlice f x = true) : ∃ a0 a1 a2 a3, x = Expr.Slice a0 a1 a2 a3 ∧ f a0 a1 a2 a3 = true := by
  obtain ⟨hi, h⟩ := dite_i h
  exact Expr.Slice.elim (motive_1 := fun y => ∀ hi : y.ctorIdx = 26, Expr.Slice.elim (motive_1 := fun q_ => Bool) y hi f = true → ∃ a0 a1 a2 a3, y = Expr.Slice a0 a1 a2 a3 ∧ f a0 a1 a2 a3 = true) x hi (fun a0 a1 a2 a3 q_ h => ⟨a0, a1, a2, a3, rfl, h⟩) hi h
@[elab_as_elim] theorem onSlice_e {f : (Option Expr) → (Option Expr) → (Option Expr) → Pos → Bool} {x : Expr} {C : Expr → Prop} (h : onSlice f x = true) (k : ∀ a0 a1 a2 a3, f a0 a1 a2 a3 = true → C (Expr.Slice a0 a1 a2 a3)) : C x := by
  obtain ⟨a0, a1, a2, a3, rfl, h⟩ := onSlice_i h
  exact k a0 a1 a2 a3 h
noncomputable def stFunctionDef (f : Str → Arguments → (List Stmt) → (List Expr) → (Option Expr) → (List TypeParam) → Scope → (Option Scope) → Str → Pos → Bool) (x : Stmt) : Bool := if h : x.ctorIdx = 0 then Stmt.FunctionDef.elim (motive_2 := fun q_ => Bool) x h f else false
theorem stFunctionDef_i {f : Str → Arguments → (List Stmt) → (List Expr) → (Option Expr) → (List TypeParam) → Scope → (Option Scope) → Str → Pos → Bool} {x : Stmt} (h : stFunctionDef f x = true) : ∃ a0 a1 a2 a3 a4 a5 a6 a7 a8 a9, x = Stmt.FunctionDef a0 a1 a2 a3 a4 a5 a6 a7 a8 a9 ∧ f a0 a1 a2 a3 a4 a5 a6 a7 a8 a9 = true := by
  obtain ⟨hi, h⟩ := dite_i h
  exact Stmt.FunctionDef.elim (motive_2 := fun y => ∀ hi : y.ctorIdx = 0, Stmt.FunctionDef.elim (motive_2 := fun q_ => Bool) y hi f = true → ∃ a0 a1 a2 a3 a4 a5 a6 a7 a8 a9, y = Stmt.FunctionDef a0 a1 a2 a3 a4 a5 a6 a7 a8 a9 ∧ f a0 a1 a2 a3 a4 a5 a6 a7 a8 a9 = true) x hi (fun a0 a1 a2 a3 a4 a5 a6 a7 a8 a9 q_ h => ⟨a0, a1, a2, a3, a4, a5, a6, a7, a8, a9, rfl, h⟩) hi h
@[elab_as_elim] theorem stFunctionDef_e {f : Str → Arguments → (List Stmt) → (List Expr) → (Option Expr) → (List TypeParam) → Scope → (Option Scope) → Str → Pos → Bool} {x : Stmt} {C : Stmt → Prop} (h : stFunctionDef f x = true) (k : ∀ a0 a1 a2 a3 a4 a5 a6 a7 a8 a9, f a0 a1 a2 a3 a4 a5 a6 a7 a8 a9 = true → C (Stmt.FunctionDef a0 a1 a2 a3 a4 a5 a6 a7 a8 a9)) : C x := by
  obtain ⟨a0, a1, a2, a3, a4, a5, a6, a7, a8, a9, rfl, h⟩ := stFunctionDef_i h
  exact k a0 a1 a2 a3 a4 a5 a6 a7 a8 a9 h
noncomputable def stReturn (f : (Option Expr) → Pos → Bool) (x : Stmt) : Bool := if h : x.ctorIdx = 3 then Stmt.Return.elim (motive_2 := fun q_ => Bool) x h f else false
theorem stReturn_i {f : (Option Expr) → Pos → Bool} {x : Stmt} (h : stReturn f x = true) : ∃ a0 a1, x = Stmt.Return a0 a1 ∧ f a0 a1 = true := by
  obtain ⟨hi, h⟩ := dite_i h
  exact Stmt.Return.elim (motive_2 := fun y => ∀ hi : y.ctorIdx = 3, Stmt.Return.elim (motive_2 := fun q_ => Bool) y hi f = true → ∃ a0 a1, y = Stmt.Return a0 a1 ∧ f a0 a1 = true) x hi (fun a0 a1 q_ h => ⟨a0, a1, rfl, h⟩) hi h
@[elab_as_elim] theorem stReturn_e {f : (Option Expr) → Pos → Bool} {x : Stmt} {C : Stmt → Prop} (h : stReturn f x = true) (k : ∀ a0 a1, f a0 a1 = true → C (Stmt.Return a0 a1)) : C x := by
  obtain ⟨a0, a1, rfl, h⟩ := stReturn_i h
  exact k a0 a1 h
noncomputable def stAssign (f : (List Expr) → Expr → Pos → Bool) (x : Stmt) : Bool := if h : x.ctorIdx = 5 then Stmt.Assign.elim (motive_2 := fun q_ => Bool) x h f else false
theorem stAssign_i {f : (List Expr) → Expr → Pos → Bool} {x : Stmt} (h : stAssign f x = true) : ∃ a0 a1 a2, x = Stmt.Assign a0 a1 a2 ∧ f a0 a1 a2 = true := by
  obtain ⟨hi, h⟩ := dite_i h
  exact Stmt.Assign.elim (motive_2 := fun y => ∀ hi : y.ctorIdx = 5, Stmt.Assign.elim (motive_2 := fun q_ => Bool) y hi f = true → ∃ a0 a1 a2, y = Stmt.Assign a0 a1 a2 ∧ f a0 a1 a2 = true) x hi (fun a0 a1 a2 q_ h => ⟨a0, a1, a2, rfl, h⟩) hi h
@[elab_as_elim] theorem stAssign_e {f : (List Expr) → Expr → Pos → Bool} {x : Stmt} {C : Stmt → Prop} (h : stAssign f x = true) (k : ∀ a0 a1 a2, f a0 a1 a2 = true → C (Stmt.Assign a0 a1 a2)) : C x := by
  obtain ⟨a0, a1, a2, rfl, h⟩ := stAssign_i h
  exact k a0 a1 a2 h
noncomputable def stAugAssign (f : Expr → Operator → Expr → Pos → Bool) (x : Stmt) : Bool := if h : x.ctorIdx = 7 then Stmt.AugAssign.elim (motive_2 := fun q_ => Bool) x h f else false
theorem stAugAssign_i {f : Expr → Operator → Expr → Pos → Bool} {x : Stmt} (h : stAugAssign f x = true) : ∃ a0 a1 a2 a3, x = Stmt.AugAssign a0 a1 a2 a3 ∧ f a0 a1 a2 a3 = true := by
  obtain ⟨hi, h⟩ := dite_i h
  exact Stmt.AugAssign.elim (motive_2 := fun y => ∀ hi : y.ctorIdx = 7, Stmt.AugAssign.elim (motive_2 := fun q_ => Bool) y hi f = true → ∃ a0 a1 a2 a3, y = Stmt.AugAssign a0 a1 a2 a3 ∧ f a0 a1 a2 a3 = true) x hi (fun a0 a1 a2 a3 q_ h => ⟨a0, a1, a2, a3, rfl, h⟩) hi h
@[elab_as_elim] theorem stAugAssign_e {f : Expr → Operator → Expr → Pos → Bool} {x : Stmt} {C : Stmt → Prop} (h : stAugAssign f x = true) (k : ∀ a0 a1 a2 a3, f a0 a1 a2 a3 = true → C (Stmt.AugAssign a0 a1 a2 a3)) : C x := by
  obtain ⟨a0, a1, a2, a3, rfl, h⟩ := stAugAssign_i h
  exact k a0 a1 a2 a3 h
noncomputable def stFor (f : Expr → Expr → (List Stmt) → (List Stmt) → Pos → Bool) (x : Stmt) : Bool := if h : x.ctorIdx = 9 then Stmt.For.elim (motive_2 := fun q_ => Bool) x h f else false
theorem stFor_i {f : Expr → Expr → (List Stmt) → (List Stmt) → Pos → Bool} {x : Stmt} (h : stFor f x = true) : ∃ a0 a1 a2 a3 a4, x = Stmt.For a0 a1 a2 a3 a4 ∧ f a0 a1 a2 a3 a4 = true := by
  obtain ⟨hi, h⟩ := dite_i h
  exact Stmt.For.elim (motive_2 := fun y => ∀ hi : y.ctorIdx = 9, Stmt.For.elim (motive_2 := fun q_ => Bool) y hi f = true → ∃ a0 a1 a2 a3 a4, y = Stmt.For a0 a1 a2 a3 a4 ∧ f a0 a1 a2 a3 a4 = true) x hi (fun a0 a1 a2 a3 a4 q_ h => ⟨a0, a1, a2, a3, a4, rfl, h⟩) hi h
@[elab_as_elim] theorem stFor_e {f : Expr → Expr → (List Stmt) → (List Stmt) → Pos → Bool} {x : Stmt} {C : Stmt → Prop} (h : stFor f x = true) (k : ∀ a0 a1 a2 a3 a4, f a0 a1 a2 a3 a4 = true → C (Stmt.For a0 a1 a2 a3 a4)) : C x := by
  obtain ⟨a0, a1, a2, a3, a4, rfl, h⟩ := stFor_i h
  exact k a0 a1 a2 a3 a4 h
noncomputable def stWhile (f : Expr → (List Stmt) → (List Stmt) → Pos → Bool) (x : Stmt) : Bool := if h : x.ctorIdx = 11 then Stmt.While.elim (motive_2 := fun q_ => Bool) x h f else false
theorem stWhile_i {f : Expr → (List Stmt) → (List Stmt) → Pos → Bool} {x : Stmt} (h : stWhile f x = true) : ∃ a0 a1 a2 a3, x = Stmt.While a0 a1 a2 a3 ∧ f a0 a1 a2 a3 = true := by
  obtain ⟨hi, h⟩ := dite_i h
  exact Stmt.While.elim (motive_2 := fun y => ∀ hi : y.ctorIdx = 11, Stmt.While.elim (motive_2 := fun q_ => Bool) y hi f = true → ∃ a0 a1 a2 a3, y = Stmt.While a0 a1 a2 a3 ∧ f a0 a1 a2 a3 = true) x hi (fun a0 a1 a2 a3 q_ h => ⟨a0, a1, a2, a3, rfl, h⟩) hi h
@[elab_as_elim] theorem stWhile_e {f : Expr → (List Stmt) → (List Stmt) → Pos → Bool} {x : Stmt} {C : Stmt → Prop} (h : stWhile f x = true) (k : ∀ a0 a1 a2 a3, f a0 a1 a2 a3 = true → C (Stmt.While a0 a1 a2 a3)) : C x := by
  obtain ⟨a0, a1, a2, a3, rfl, h⟩ := stWhile_i h
  exact k a0 a1 a2 a3 h
noncomputable def stIf (f : Expr → (List Stmt) → (List Stmt) → Pos → Bool) (x : Stmt) : Bool := if h : x.ctorIdx = 12 then Stmt.If.elim (motive_2 := fun q_ => Bool) x h f else false
theorem stIf_i {f : Expr → (List Stmt) → (List Stmt) → Pos → Bool} {x : Stmt} (h : stIf f x = true) : ∃ a0 a1 a2 a3, x = Stmt.If a0 a1 a2 a3 ∧ f a0 a1 a2 a3 = true := by
  obtain ⟨hi, h⟩ := dite_i h
  exact Stmt.If.elim (motive_2 := fun y => ∀ hi : y.ctorIdx = 12, Stmt.If.elim (motive_2 := fun q_ => Bool) y hi f = true → ∃ a0 a1 a2 a3, y = Stmt.If a0 a1 a2 a3 ∧ f a0 a1 a2 a3 = true) x hi (fun a0 a1 a2 a3 q_ h => ⟨a0, a1, a2, a3, rfl, h⟩) hi h
@[elab_as_elim] theorem stIf_e {f : Expr → (List Stmt) → (List Stmt) → Pos → Bool} {x : Stmt} {C : Stmt → Prop} (h : stIf f x = true) (k : ∀ a0 a1 a2 a3, f a0 a1 a2 a3 = true → C (Stmt.If a0 a1 a2 a3)) : C x := by
  obtain ⟨a0, a1, a2, a3, rfl, h⟩ := stIf_i h
  exact k a0 a1 a2 a3 h
noncomputable def stRaise (f : (Option Expr) → (Option Expr) → Pos → Bool) (x : Stmt) : Bool := if h : x.ctorIdx = 16 then Stmt.Raise.elim (motive_2 := fun q_ => Bool) x h f else false
theorem stRaise_i {f : (Option Expr) → (Option Expr) → Pos → Bool} {x : Stmt} (h : stRaise f x = true) : ∃ a0 a1 a2, x = Stmt.Raise a0 a1 a2 ∧ f a0 a1 a2 = true := by
  obtain ⟨hi, h⟩ := dite_i h
  exact Stmt.Raise.elim (motive_2 := fun y => ∀ hi : y.ctorIdx = 16, Stmt.Raise.elim (motive_2 := fun q_ => Bool) y hi f = true → ∃ a0 a1 a2, y = Stmt.Raise a0 a1 a2 ∧ f a0 a1 a2 = true) x hi (fun a0 a1 a2 q_ h => ⟨a0, a1, a2, rfl, h⟩) hi h
@[elab_as_elim] theorem stRaise_e {f : (Option Expr) → (Option Expr) → Pos → Bool} {x : Stmt} {C : Stmt → Prop} (h : stRaise f x = true) (k : ∀ a0 a1 a2, f a0 a1 a2 = true → C (Stmt.Raise a0 a1 a2)) : C x := by
  obtain ⟨a0, a1, a2, rfl, h⟩ := stRaise_i h
  exact k a0 a1 a2 h
noncomputable def stTry (f : (List Stmt) → (List ExceptHandler) → (List Stmt) → (List Stmt) → Pos → Bool) (x : Stmt) : Bool := if h : x.ctorIdx = 17 then Stmt.Try.elim (motive_2 := fun q_ => Bool) x h f else false
theorem stTry_i {f : (List Stmt) → (List ExceptHandler) → (List Stmt) → (List Stmt) → Pos → Bool} {x : Stmt} (h : stTry f x = true) : ∃ a0 a1 a2 a3 a4, x = Stmt.Try a0 a1 a2 a3 a4 ∧ f a0 a1 a2 a3 a4 = true := by
  obtain ⟨hi, h⟩ := dite_i h
  exact Stmt.Try.elim (motive_2 := fun y => ∀ hi : y.ctorIdx = 17, Stmt.Try.elim (motive_2 := fun q_ => Bool) y hi f = true → ∃ a0 a1 a2 a3 a4, y = Stmt.Try a0 a1 a2 a3 a4 ∧ f a0 a1 a2 a3 a4 = true) x hi (fun a0 a1 a2 a3 a4 q_ h => ⟨a0, a1, a2, a3, a4, rfl, h⟩) hi h
@[elab_as_elim] theorem stTry_e {f : (List Stmt) → (List ExceptHandler) → (List Stmt) → (List Stmt) → Pos → Bool} {x : Stmt} {C : Stmt → Prop} (h : stTry f x = true) (k : ∀ a0 a1 a2 a3 a4, f a0 a1 a2 a3 a4 = true → C (Stmt.Try a0 a1 a2 a3 a4)) : C x := by
  obtain ⟨a0, a1, a2, a3, a4, rfl, h⟩ := stTry_i h
  exact k a0 a1 a2 a3 a4 h
noncomputable def stExpr (f : Expr → Pos → Bool) (x : Stmt) : Bool := if h : x.ctorIdx = 24 then Stmt.Expr.elim (motive_2 := fun q_ => Bool) x h f else false
theorem stExpr_i {f : Expr → Pos → Bool} {x : Stmt} (h : stExpr f x = true) : ∃ a0 a1, x = Stmt.Expr a0 a1 ∧ f a0 a1 = true := by
  obtain ⟨hi, h⟩ := dite_i h
  exact Stmt.Expr.elim (motive_2 := fun y => ∀ hi : y.ctorIdx = 24, Stmt.Expr.elim (motive_2 := fun q_ => Bool) y hi f = true → ∃ a0 a1, y = Stmt.Expr a0 a1 ∧ f a0 a1 = true) x hi (fun a0 a1 q_ h => ⟨a0, a1, rfl, h⟩) hi h
@[elab_as_elim] theorem stExpr_e {f : Expr → Pos → Bool} {x : Stmt} {C : Stmt → Prop} (h : stExpr f x = true) (k : ∀ a0 a1, f a0 a1 = true → C (Stmt.Expr a0 a1)) : C x := by
  obtain ⟨a0, a1, rfl, h⟩ := stExpr_i h
  exact k a0 a1 h
noncomputable def coNone (f : Bool) (x : Const) : Bool := @Const.casesOn (fun q_ => Bool) x f (fun q_ => false) (fun q_ => false) (fun q_ => false) (fun q_ q_ => false) (fun q_ => false) (fun q_ => false) false
theorem coNone_i {f : Bool} {x : Const} (h : coNone f x = true) : x = Const.none  ∧ f  = true := @Const.casesOn (fun y => x = y → coNone f y = true → x = Const.none  ∧ f  = true) x (fun  e h => ⟨ e, h⟩) (fun q_ q_ => bad) (fun q_ q_ => bad) (fun q_ q_ => bad) (fun q_ q_ q_ => bad) (fun q_ q_ => bad) (fun q_ q_ => bad) (fun  _ => bad) rfl h
noncomputable def coBool (f : Bool → Bool) (x : Const) : Bool := @Const.casesOn (fun q_ => Bool) x false f (fun q_ => false) (fun q_ => false) (fun q_ q_ => false) (fun q_ => false) (fun q_ => false) false
theorem coBool_i {f : Bool → Bool} {x : Const} (h : coBool f x = true) : ∃ a0, x = Const.bool a0 ∧ f a0 = true := @Const.casesOn (fun y => x = y → coBool f y = true → ∃ a0, x = Const.bool a0 ∧ f a0 = true) x (fun  _ => bad) (fun a0 e h => ⟨a0,  e, h⟩) (fun q_ q_ => bad) (fun q_ q_ => bad) (fun q_ q_ q_ => bad) (fun q_ q_ => bad) (fun q_ q_ => bad) (fun  _ => bad) rfl h
@[elab_as_elim] theorem coBool_e {f : Bool → Bool} {x : Const} {C : Const → Prop} (h : coBool f x = true) (k : ∀ a0, f a0 = true → C (Const.bool a0)) : C x := by
  obtain ⟨a0, rfl, h⟩ := coBool_i h
  exact k a0 h
noncomputable def coInt (f : Int → Bool) (x : Const) : Bool := @Const.casesOn (fun q_ => Bool) x false (fun q_ => false) f (fun q_ => false) (fun q_ q_ => false) (fun q_ => false) (fun q_ => false) false
theorem coInt_i {f : Int → Bool} {x : Const} (h : coInt f x = true) : ∃ a0, x = Const.int a0 ∧ f a0 = true := @Const.casesOn (fun y => x = y → coInt f y = true → ∃ a0, x = Const.int a0 ∧ f a0 = true) x (fun  _ => bad) (fun q_ q_ => bad) (fun a0 e h => ⟨a0,  e, h⟩) (fun q_ q_ => bad) (fun q_ q_ q_ => bad) (fun q_ q_ => bad) (fun q_ q_ => bad) (fun  _ => bad) rfl h
@[elab_as_elim] theorem coInt_e {f : Int → Bool} {x : Const} {C : Const → Prop} (h : coInt f x = true) (k : ∀ a0, f a0 = true → C (Const.int a0)) : C x := by
  obtain ⟨a0, rfl, h⟩ := coInt_i h
  exact k a0 h
noncomputable def coStr (f : Str → Bool) (x : Const) : Bool := @Const.casesOn (fun q_ => Bool) x false (fun q_ => false) (fun q_ => false) (fun q_ => false) (fun q_ q_ => false) f (fun q_ => false) false
theorem coStr_i {f : Str → Bool} {x : Const} (h : coStr f x = true) : ∃ a0, x = Const.str a0 ∧ f a0 = true := @Const.casesOn (fun y => x = y → coStr f y = true → ∃ a0, x = Const.str a0 ∧ f a0 = true) x (fun  _ => bad) (fun q_ q_ => bad) (fun q_ q_ => bad) (fun q_ q_ => bad) (fun q_ q_ q_ => bad) (fun a0 e h => ⟨a0,  e, h⟩) (fun q_ q_ => bad) (fun  _ => bad) rfl h
@[elab_as_elim] theorem coStr_e {f : Str → Bool} {x : Const} {C : Const → Prop} (h : coStr f x = true) (k : ∀ a0, f a0 = true → C (Const.str a0)) : C x := by
  obtain ⟨a0, rfl, h⟩ := coStr_i h
  exact k a0 h
noncomputable def on1 {α : Type} (f : α → Bool) (xs : List α) : Bool := xs.rec false fun a r q_ => r.rec (f a) fun q_ q_ q_ => false
noncomputable def on2 {α : Type} (f : α → α → Bool) (xs : List α) : Bool := xs.rec false fun a r q_ => on1 (f a) r
theorem on1_i {α : Type} {f : α → Bool} : ∀ {xs : List α}, on1 f xs = true → ∃ a, xs = [a] ∧ f a = true
  | [a], h => ⟨a, rfl, h⟩
  | [], h => bad h
  | _ :: _ :: _, h => bad h
@[elab_as_elim] theorem on1_e {α : Type} {f : α → Bool} {xs : List α} {C : List α → Prop} (h : on1 f xs = true) (k : ∀ a, f a = true → C [a]) : C xs := by
  obtain ⟨a, rfl, h⟩ := on1_i h
  exact k a h
theorem on2_i {α : Type} {f : α → α → Bool} : ∀ {xs : List α}, on2 f xs = true → ∃ a b, xs = [a, b] ∧ f a b = true
  | a :: r, h => by
    obtain ⟨b, rfl, h⟩ := on1_i (f := f a) h
    exact ⟨a, b, rfl, h⟩
  | [], h => bad h
@[elab_as_elim] theorem on2_e {α : Type} {f : α → α → Bool} {xs : List α} {C : List α → Prop} (h : on2 f xs = true) (k : ∀ a b, f a b = true → C [a, b]) : C xs := by
  obtain ⟨a, b, rfl, h⟩ := on2_i h
  exact k a b h
noncomputable def onC {α : Type} (f : α → List α → Bool) (xs : List α) : Bool := xs.rec false fun a r q_ => f a r
theorem onC_i {α : Type} {f : α → List α → Bool} : ∀ {xs : List α}, onC f xs = true → ∃ a r, xs = a :: r ∧ f a r = true
  | a :: r, h => ⟨a, r, rfl, h⟩
  | [], h => bad h
@[elab_as_elim] theorem onC_e {α : Type} {f : α → List α → Bool} {xs : List α} {C : List α → Prop} (h : onC f xs = true) (k : ∀ a r, f a r = true → C (a :: r)) : C xs := by
  obtain ⟨a, r, rfl, h⟩ := onC_i h
  exact k a r h
noncomputable def onS {α : Type} (f : α → Bool) (o : Option α) : Bool := o.rec false f
theorem onS_i {α : Type} {f : α → Bool} : ∀ {o : Option α}, onS f o = true → ∃ a, o = some a ∧ f a = true
  | some a, h => ⟨a, rfl, h⟩
  | none, h => bad h
@[elab_as_elim] theorem onS_e {α : Type} {f : α → Bool} {o : Option α} {C : Option α → Prop} (h : onS f o = true) (k : ∀ a, f a = true → C (some a)) : C o := by
  obtain ⟨a, rfl, h⟩ := onS_i h
  exact k a h
noncomputable def onN {α : Type} (o : Option α) : Bool := o.rec true fun q_ => false
theorem onN_i {α : Type} : ∀ {o : Option α}, onN o = true → o = none
  | none, _ => rfl
  | some _, h => bad h
noncomputable def on0 {α : Type} (o : List α) : Bool := o.rec true fun q_ q_ q_ => false
theorem on0_i {α : Type} : ∀ {o : List α}, on0 o = true → o = []
  | [], _ => rfl
  | _ :: _, h => bad h
noncomputable def toS (cs : List Nat) : Str := ⟨cs.toArray⟩
noncomputable def isS (cs : List Nat) (x : Str) : Bool := decide (x.cps.toList = cs)
theorem isS_eq {cs : List Nat} {x : Str} (h : isS cs x = true) : x = toS cs := by
  have e : x.cps.toList = cs := of_decide_eq_true h
  unfold toS
  rw [← e]
noncomputable def Fld.name : Fld → Str
  | .kind => Str.ofString "kind"
  | .text => Str.ofString "text"
  | .depth => Str.ofString "depth"
  | .frames => Str.ofString "frames"
  | .steps => Str.ofString "steps"
  | .loops => Str.ofString "loops"
  | .ic => Str.ofString "ignores_case"
  | .ml => Str.ofString "is_multiline"
  | .left => Str.ofString "left"
  | .waiting => Str.ofString "waiting"
noncomputable def Me.name : Me → Str
  | .append => Str.ofString "append"
  | .pop => Str.ofString "pop"
  | .extend => Str.ofString "extend"
  | .get => Str.ofString "get"
structure Tabs where
  gnames : List (List Nat)
  mnames : List (List Nat)
noncomputable def isKind (sc : Scope) (x : Str) (k : NameKind) : Bool := sc.names.lookup x == some k
noncomputable def inFrame (sc : Scope) (x : Str) : Bool := isKind sc x .local || isKind sc x .cell || isKind sc x .free
noncomputable def Op2.op : Op2 → Operator
  | .add => .Add
  | .sub => .Sub
  | .mul => .Mult
  | .fdiv => .FloorDiv
  | .mod => .Mod
noncomputable def op2 (o : Op2) (p : Operator) : Bool := decide (p = o.op)
noncomputable def OpC.op : OpC → CmpOp
  | .eq => .Eq
  | .ne => .NotEq
  | .lt => .Lt
  | .le => .LtE
  | .gt => .Gt
  | .ge => .GtE
  | .is => .Is
  | .isNot => .IsNot
  | .isIn => .In
noncomputable def opC (o : OpC) (p : CmpOp) : Bool := decide (p = o.op)
noncomputable def plainArgs (a : Arguments) (ps : List (List Nat)) : Bool :=
  a.posonlyargs.isEmpty && a.vararg.isNone && a.kwonlyargs.isEmpty && a.kw_defaults.isEmpty && a.kwarg.isNone && a.defaults.isEmpty &&
  decide (a.args.map (fun x => x.arg.cps.toList) = ps) && a.args.all (fun x => x.annotation.isNone)
noncomputable def scopeOk (sc : Scope) (names : List (List Nat)) : Bool :=
  sc.kind == .function && !sc.isGenerator && !sc.isCoroutine && decide names.Nodup && decide (sc.names.map (·.1)).Nodup && names.all fun x => inFrame sc (toS x)
noncomputable def closOk (sc sc' : Scope) (names names' : List (List Nat)) (caps : List (Nat × Nat)) : Bool :=
  scopeOk sc' names' && sc'.names.all (fun p => p.2 != .cell) &&
  sc'.names.all (fun p => p.2 != .free || caps.any fun c => decide (names'[c.2]? = some p.1.cps.toList)) &&
  caps.all fun c => match names[c.1]?, names'[c.2]? with
    | some x, some y => decide (x = y) && isKind sc' (toS y) .free && (isKind sc (toS x) .cell || isKind sc (toS x) .free)
    | _, _ => false
noncomputable def parsLocal (sc : Scope) (ps : List (List Nat)) : Bool := ps.all fun x => isKind sc (toS x) .local
noncomputable def oneLine (o : Expr) (apos pos : Pos) : Bool := apos.endLine == pos.line
noncomputable def noFold (x : Expr) : Bool := !onSet (fun q_ q_ q_ => true) x && !onList (fun q_ q_ => true) x
noncomputable def notComp (x : Expr) : Bool := !onListComp (fun q_ q_ q_ q_ => true) x && !onSetComp (fun q_ q_ q_ q_ => true) x && !onDictComp (fun q_ q_ q_ q_ q_ => true) x
noncomputable def isName (x : Expr) : Bool := onName (fun q_ q_ => true) x
noncomputable def isStar (x : Expr) : Bool := onStarred (fun q_ q_ => true) x
noncomputable def isCall (x : Expr) : Bool := onCall (fun q_ q_ q_ q_ => true) x
noncomputable def isSlice (x : Expr) : Bool := onSlice (fun q_ q_ q_ q_ => true) x
noncomputable def isNm (ns : List (List Nat)) (i : Nat) (x : Str) : Bool := onS (fun n => isS n x) ns[i]?
noncomputable def inOrder (a b : Expr) : Bool := !onList (fun q_ q_ => true) a && (!(onTuple (fun q_ q_ q_ => true) a && onTuple (fun q_ q_ q_ => true) b) || onTuple (fun ts q_ q_ => ts.any fun t => !isName t) a || onTuple (fun vs q_ q_ => vs.all (foldedForSure 8)) b)
noncomputable def mNs (sc : Scope) (ns : List (List Nat)) : List Nat → List Expr → Bool
  | [], xs => on0 xs
  | i :: is, xs => onC (fun x r => onName (fun x q_ => isNm ns i x && isKind sc x .local) x && mNs sc ns is r) xs
noncomputable def mKs : List (List Nat) → List (Option Expr) → Bool
  | [], xs => on0 xs
  | k :: ks, xs => onC (fun x r => onS (onConstant fun c q_ q_ => coStr (isS k) c) x && mKs ks r) xs
noncomputable def mKi : List (Int × Int) → List (Option Expr) → List Expr → Bool
  | [], xs, ys => on0 xs && on0 ys
  | p :: r, xs, ys => onC (fun x xs => onS (onConstant fun c q_ q_ => coInt (fun k => decide (p.1 = k)) c) x && onC (fun y ys => onConstant (fun c q_ q_ => coInt (fun k => decide (p.2 = k)) c) y && mKi r xs ys) ys) xs
end
section
set_option Elab.async false
set_option autoImplicit false
set_option linter.unusedVariables false
set_option tactic.hygienic false
set_option genSizeOf false
set_option genInjectivity false
open PySem PySem.W PyProof.Rows PySem.Calls
noncomputable abbrev tplO (vs : Array Value) (n : Nat) : Obj := { cls := .type "tuple", data := .seq vs n }
noncomputable abbrev lstO (vs : Array Value) (n : Nat) : Obj := { cls := .type "list", data := .seq vs n }
noncomputable abbrev dctO (es : Array DictEntry) (n : Nat) : Obj := { cls := .type "dict", data := .dict es n }
noncomputable abbrev fnO (fd : FuncData) : Obj := { cls := .type "function", data := .func fd }
noncomputable abbrev insO (C d : Addr) : Obj := { cls := .ref C, dict := some d, data := .plain }
structure CR where
  nm : Str
  q : Str
  N : Addr
  bs : List Value
  sn : List Str
  sub : List Value
  ab : Bool
  col : Option Bool
  dd : Option Addr
  k0 : Option Value
  k1 : Option Value
  k2 : Option Value
  k3 : Option Value
  k5 : Option Value
noncomputable abbrev CR.obj (r : CR) (C : Addr) (bm : List Value) (ab : Bool) (newId : String) : Obj := excClassObj r.nm r.q C r.N r.bs bm true r.sn r.sub ab r.col r.dd r.k0 r.k1 r.k2 r.k3 r.k5 newId
structure St where
  g : Addr → Option Obj
  al : List (Addr × Option Addr)
noncomputable def adrOf : List (Addr × Option Addr) → List Addr
  | [] => []
  | p :: r => p.1 :: (p.2.toList ++ adrOf r)
noncomputable def St.adr (G : St) : List Addr := adrOf G.al
noncomputable def Bi.val : Bi → Value
  | .len => .builtin "len"
  | .abs => .builtin "abs"
  | .int => .type "int"
  | .ord => .builtin "ord"
  | .chr => .builtin "chr"
  | .any => .builtin "any"
  | .isinstance => .builtin "isinstance"
  | .list => .type "list"
  | .tuple => .type "tuple"
  | .range => .type "range"
  | .zip => .type "zip"
  | .min => .builtin "min"
structure Base where
  prog : Program
  w : World
  h₀ : Heap
  T : Tabs
  Gl : Glo
  fnA : Nat → Addr
  clA : Cls → Addr
  mg : Str → Option Value
  mb : Str → Option Value
noncomputable def Base.tabP (_ : Base) : List Addr := []
noncomputable def LstG (G : St) (a : Addr) (vs : Array Value) (n : Nat) : Prop := ∃ o, G.g a = some o ∧ o.cls = .type "list" ∧ o.data = .seq vs n
theorem LstG.mono {G G' : St} {a : Addr} {vs : Array Value} {n : Nat} (k : ∀ b o, G.g b = some o → G'.g b = some o) (x : LstG G a vs n) : LstG G' a vs n := x.elim fun o q => ⟨o, k _ _ q.1, q.2⟩
mutual
noncomputable def Rep (B : Base) (G : St) : AV → Value → Prop
  | .none, v => v = .none
  | .bool b, v => v = .bool b
  | .int i, v => ∃ t, v = .int i t
  | .str cs, v => ∃ t, v = .str (toS cs) t
  | .tup xs, v => ∃ a vs n, v = .ref a ∧ G.g a = some (tplO vs n) ∧ RepL B G xs vs.toList
  | .lst xs, v => ∃ a vs n, v = .ref a ∧ G.g a = some (lstO vs n) ∧ RepL B G xs vs.toList
  | .row xs, v => ∃ a vs n, v = .ref a ∧ LstG G a vs n ∧ RepL B G xs vs.toList
  | .dct kvs, v => ∃ a es n, v = .ref a ∧ G.g a = some (dctO es n) ∧ (a == sysModules) = false ∧ RepD B G kvs es.toList
  | .obj i, v => ∃ p, G.al[i]? = some p ∧ v = .ref p.1
  | .fn k, v => v = .ref (B.fnA k)
  | .cls c, v => v = .ref (B.clA c)
  | .bi b, v => v = b.val
noncomputable def RepL (B : Base) (G : St) : List AV → List Value → Prop
  | [], vs => vs = []
  | x :: xs, vs => ∃ v r, vs = v :: r ∧ Rep B G x v ∧ RepL B G xs r
noncomputable def RepD (B : Base) (G : St) : List (Int × AV) → List DictEntry → Prop
  | [], es => es = []
  | p :: r, es => ∃ e t u, es = e :: u ∧ e.key = .int p.1 t ∧ e.hash = hashInt p.1 ∧ Rep B G p.2 e.val ∧ RepD B G r u
end
noncomputable def RepC (B : Base) (G : St) (names : List (List Nat)) (cl : List (Str × Addr)) : List (Nat × AV) → Prop
  | [] => True
  | p :: r => (∃ n c o v, names[p.1]? = some n ∧ cl.lookup (toS n) = some c ∧ G.g c = some o ∧ o.data = .cell (some v) ∧ Rep B G p.2 v) ∧ RepC B G names cl r
noncomputable def AObjOk (B : Base) (G : St) (h : Heap) (p : Addr × Option Addr) : AObj → Prop
  | .list xs => p.2 = none ∧ ∃ vs n, h.get? p.1 = some (lstO vs n) ∧ RepL B G xs vs.toList
  | .inst c fs => ∃ d m, p.2 = some d ∧ h.get? p.1 = some (insO (B.clA c) d) ∧ h.Ns1 d m ∧
      (∀ f, match fs f with | some av => ∃ v, m f.name = some v ∧ Rep B G av v | none => m f.name = none) ∧
      ∀ y, m y ≠ none → ∃ f, y = Fld.name f
structure Inv (B : Base) (G : St) (H : AH) (h : Heap) : Prop where
  sub : ∀ b o, G.g b = some o → h.get? b = some o
  old : ∀ b o, B.h₀.get? b = some o → b ∉ B.tabP → G.g b = some o
  len : G.al.length = H.length
  nod : G.adr.Nodup
  off : ∀ a ∈ G.adr, G.g a = none ∧ a ∉ B.tabP ∧ ∃ o, h.get? a = some o
  objs : ∀ (i : Nat) o p, H[i]? = some o → G.al[i]? = some p → AObjOk B G h p o
structure Step (B : Base) (X : Addr → Prop) (G : St) (h : Heap) (G' : St) (h' : Heap) : Prop where
  live : ∀ b o, ¬ X b → h.get? b = some o → ∃ o', h'.get? b = some o'
  mono : ∀ b o, G.g b = some o → G'.g b = some o
  ext : ∀ b o, h.get? b = some o → ¬ X b → G'.g b = G.g b
  al : ∃ l, G'.al = G.al ++ l ∧ ∀ a ∈ adrOf l, ¬ X a → h.get? a = none
  keep : ∀ b o, ¬ X b → b ∉ G.adr → b ∉ B.tabP → h.get? b = some o → h'.get? b = some o
noncomputable abbrev Pure : Addr → Prop := fun q_ => False
theorem adrOf_append : ∀ (l r : List (Addr × Option Addr)), adrOf (l ++ r) = adrOf l ++ adrOf r
  | [], _ => rfl
  | p :: l, r => by
    show p.1 :: (p.2.toList ++ adrOf (l ++ r)) = (p.1 :: (p.2.toList ++ adrOf l)) ++ adrOf r
    rw [adrOf_append l r, List.cons_append, List.append_assoc]
theorem mem_adr1 : ∀ {l : List (Addr × Option Addr)} {i : Nat} {p : Addr × Option Addr}, l[i]? = some p → p.1 ∈ adrOf l
  | [], _, _, h => by cases h
  | q :: l, 0, p, h => by
    cases h
    exact List.mem_cons_self
  | q :: l, i + 1, p, h => List.mem_cons_of_mem _ (List.mem_append_right _ (mem_adr1 (l := l) (i := i) h))
theorem mem_adr2 : ∀ {l : List (Addr × Option Addr)} {i : Nat} {p : Addr × Option Addr} {d : Addr}, l[i]? = some p → p.2 = some d → d ∈ adrOf l
  | [], _, _, _, h, _ => by cases h
  | q :: l, 0, p, d, h, e => by
    cases h
    refine List.mem_cons_of_mem _ (List.mem_append_left _ ?_)
    rw [e]; exact List.mem_cons_self
  | q :: l, i + 1, p, d, h, e => List.mem_cons_of_mem _ (List.mem_append_right _ (mem_adr2 (l := l) (i := i) h e))
theorem Heap.get?_end (h : Heap) : h.get? h.objs.size = none := by
  cases e : h.get? h.objs.size with
  | none => rfl
  | some o => exact absurd (Heap.lt_size e) (Nat.lt_irrefl _)
theorem Step.refl (B : Base) (X : Addr → Prop) (G : St) (h : Heap) : Step B X G h G h :=
  ⟨fun q_ o q_ e => ⟨o, e⟩, fun q_ q_ e => e, fun q_ q_ q_ q_ => rfl, ⟨[], (List.append_nil _).symm, fun q_ hm => nomatch hm⟩, fun q_ q_ q_ q_ q_ e => e⟩
theorem Step.trans {B : Base} {X : Addr → Prop} {G G1 G2 : St} {h h1 h2 : Heap} (a : Step B X G h G1 h1) (b : Step B X G1 h1 G2 h2) : Step B X G h G2 h2 := by
  refine via fun R_ k_ => ?_
  obtain ⟨l, e, hl⟩ := a.al
  obtain ⟨l', e', hl'⟩ := b.al
  refine k_ ?_
  refine ⟨fun x o n q => (a.live x o n q).elim fun o' q' => b.live x o' n q', fun x o q => b.mono x o (a.mono x o q), fun x o hx hX => (a.live x o hX hx).elim fun o' q' => (b.ext x o' q' hX).trans (a.ext x o hx hX),
    ⟨l ++ l', by rw [e', e, List.append_assoc], fun x hx n => ?_⟩, fun x o hX hn ht q => b.keep x o hX ?_ ht (a.keep x o hX hn ht q)⟩
  · rw [adrOf_append] at hx
    rcases List.mem_append.mp hx with hx | hx
    · exact hl x hx n
    · cases q : h.get? x with
      | none => rfl
      | some o =>
        obtain ⟨o', q'⟩ := a.live x o n q
        rw [hl' x hx n] at q'; cases q'
  · intro hm
    unfold St.adr at hm
    rw [e, adrOf_append] at hm
    rcases List.mem_append.mp hm with hm | hm
    · exact hn hm
    · rw [hl x hm hX] at q; cases q
theorem Step.weak {B : Base} {X Y : Addr → Prop} {G G1 : St} {h h1 : Heap} (a : Step B X G h G1 h1) (k : ∀ b, X b → Y b) : Step B Y G h G1 h1 :=
  ⟨fun b o n => a.live b o fun q => n (k b q), a.mono, fun b o hb hY => a.ext b o hb fun q => hY (k b q), a.al.elim fun l q => ⟨l, q.1, fun x hx n => q.2 x hx fun y => n (k x y)⟩, fun b o hY => a.keep b o fun q => hY (k b q)⟩
theorem Step.pure {B : Base} {Y : Addr → Prop} {G G1 : St} {h h1 : Heap} (a : Step B Pure G h G1 h1) : Step B Y G h G1 h1 := a.weak fun q_ q => q.elim
theorem Step.shut {B : Base} {X : Addr → Prop} {G G1 : St} {h h1 : Heap} (a : Step B X G h G1 h1) (k : ∀ b, X b → h.get? b = none) : Step B Pure G h G1 h1 :=
  ⟨fun b o q_ e => a.live b o (fun q => by rw [k b q] at e; cases e) e, a.mono, fun b o hb q_ => a.ext b o hb fun q => (by rw [k b q] at hb; cases hb),
    a.al.elim fun l q => ⟨l, q.1, fun x hx q_ => Classical.byCases (fun y : X x => k x y) fun y => q.2 x hx y⟩, fun b o q_ h1 h2 e => a.keep b o (fun q => by rw [k b q] at e; cases e) h1 h2 e⟩
theorem Step.shutTo {B : Base} {X Y : Addr → Prop} {G G1 : St} {h h1 : Heap} (a : Step B (fun b => X b ∨ Y b) G h G1 h1) (k : ∀ b, Y b → h.get? b = none) : Step B X G h G1 h1 :=
  ⟨fun b o n e => a.live b o (fun q => q.elim n fun q => by rw [k b q] at e; cases e) e, a.mono, fun b o hb n => a.ext b o hb fun q => q.elim n fun q => (by rw [k b q] at hb; cases hb),
    a.al.elim fun l q => ⟨l, q.1, fun x hx n => Classical.byCases (fun y : Y x => k x y) fun y => q.2 x hx fun z => z.elim n y⟩, fun b o n h1 h2 e => a.keep b o (fun q => q.elim n fun q => by rw [k b q] at e; cases e) h1 h2 e⟩
theorem Step.alAt {B : Base} {X : Addr → Prop} {G G1 : St} {h h1 : Heap} (a : Step B X G h G1 h1) {i : Nat} {p : Addr × Option Addr} (e : G.al[i]? = some p) : G1.al[i]? = some p := by
  obtain ⟨l, q, _⟩ := a.al
  rw [q]
  exact (List.getElem?_append_left (List.getElem?_eq_some_iff.mp e).1).trans e
mutual
theorem Rep.mono {B : Base} {G G' : St} (k : ∀ b o, G.g b = some o → G'.g b = some o) (ka : ∀ (i : Nat) p, G.al[i]? = some p → G'.al[i]? = some p) : ∀ {x : AV} {v : Value}, Rep B G x v → Rep B G' x v
  | .none, _, h => h
  | .bool _, _, h => h
  | .int _, _, h => h
  | .str _, _, h => h
  | .tup xs, _, ⟨a, vs, n, e, g, r⟩ => ⟨a, vs, n, e, k _ _ g, RepL.mono k ka r⟩
  | .lst xs, _, ⟨a, vs, n, e, g, r⟩ => ⟨a, vs, n, e, k _ _ g, RepL.mono k ka r⟩
  | .row xs, _, ⟨a, vs, n, e, g, r⟩ => ⟨a, vs, n, e, g.mono k, RepL.mono k ka r⟩
  | .dct kvs, _, ⟨a, es, n, e, g, q, r⟩ => ⟨a, es, n, e, k _ _ g, q, RepD.mono k ka r⟩
  | .obj i, _, ⟨p, e, r⟩ => ⟨p, ka _ _ e, r⟩
  | .fn _, _, h => h
  | .cls _, _, h => h
  | .bi _, _, h => h
theorem RepL.mono {B : Base} {G G' : St} (k : ∀ b o, G.g b = some o → G'.g b = some o) (ka : ∀ (i : Nat) p, G.al[i]? = some p → G'.al[i]? = some p) : ∀ {xs : List AV} {vs : List Value}, RepL B G xs vs → RepL B G' xs vs
  | [], _, h => h
  | _ :: _, _, ⟨v, r, e, a, b⟩ => ⟨v, r, e, Rep.mono k ka a, RepL.mono k ka b⟩
theorem RepD.mono {B : Base} {G G' : St} (k : ∀ b o, G.g b = some o → G'.g b = some o) (ka : ∀ (i : Nat) p, G.al[i]? = some p → G'.al[i]? = some p) : ∀ {xs : List (Int × AV)} {vs : List DictEntry}, RepD B G xs vs → RepD B G' xs vs
  | [], _, h => h
  | (_, _) :: _, _, ⟨e, t, u, q, a, b, c, d⟩ => ⟨e, t, u, q, a, b, Rep.mono k ka c, RepD.mono k ka d⟩
end
theorem RepC.mono {B : Base} {G G' : St} {names : List (List Nat)} {cl : List (Str × Addr)} (k : ∀ b o, G.g b = some o → G'.g b = some o) (ka : ∀ (i : Nat) p, G.al[i]? = some p → G'.al[i]? = some p) : ∀ {xs : List (Nat × AV)}, RepC B G names cl xs → RepC B G' names cl xs
  | [], h => h
  | (_, _) :: _, ⟨⟨n, c, o, v, e1, e2, e3, e4, r⟩, h⟩ => ⟨⟨n, c, o, v, e1, e2, k _ _ e3, e4, Rep.mono k ka r⟩, RepC.mono k ka h⟩
theorem Step.rep {B : Base} {X : Addr → Prop} {G G' : St} {h h' : Heap} (a : Step B X G h G' h') {x : AV} {v : Value} (r : Rep B G x v) : Rep B G' x v := Rep.mono a.mono (fun q_ q_ e => a.alAt e) r
theorem Step.repL {B : Base} {X : Addr → Prop} {G G' : St} {h h' : Heap} (a : Step B X G h G' h') {x : List AV} {v : List Value} (r : RepL B G x v) : RepL B G' x v := RepL.mono a.mono (fun q_ q_ e => a.alAt e) r
theorem AObjOk.mono {B : Base} {G G' : St} {h h' : Heap} {p : Addr × Option Addr} (k : ∀ b o, G.g b = some o → G'.g b = some o) (ka : ∀ (i : Nat) p, G.al[i]? = some p → G'.al[i]? = some p)
    (k1 : ∀ o, h.get? p.1 = some o → h'.get? p.1 = some o) (k2 : ∀ d o, p.2 = some d → h.get? d = some o → h'.get? d = some o) : ∀ {x : AObj}, AObjOk B G h p x → AObjOk B G' h' p x
  | .list xs, ⟨e, vs, n, g, r⟩ => ⟨e, vs, n, k1 _ g, r.mono k ka⟩
  | .inst c fs, ⟨d, m, e, g, n, f, y⟩ => ⟨d, m, e, k1 _ g, n.at fun o q => k2 d o e q, fun x => by
      have := f x
      cases q : fs x with
      | none => rw [q] at this; exact this
      | some av => rw [q] at this; obtain ⟨v, a, b⟩ := this; exact ⟨v, a, b.mono k ka⟩, y⟩
theorem Inv.keeps {B : Base} {G : St} {H : AH} {h h' : Heap} (I : Inv B G H h) (k : ∀ b o, (G.g b = some o ∨ b ∈ G.adr ∨ b ∈ B.tabP) → h.get? b = some o → h'.get? b = some o) : Inv B G H h' where
  sub := fun b o e => k b o (.inl e) (I.sub b o e)
  old := I.old
  len := I.len
  nod := I.nod
  off := fun a ha => by
    obtain ⟨e, t, o, q⟩ := I.off a ha
    exact ⟨e, t, o, k a o (.inr (.inl ha)) q⟩
  objs := fun i o p a b => AObjOk.mono (fun q_ q_ e => e) (fun q_ q_ e => e) (fun o' e => k _ _ (.inr (.inl (mem_adr1 b))) e) (fun d o' q e => k _ _ (.inr (.inl (mem_adr2 b q))) e) (I.objs i o p a b)
noncomputable def St.put (G : St) (a : Addr) (o : Obj) : St := { G with g := fun b => if b = a then some o else G.g b }
set_option tactic.hygienic true in
theorem Inv.freeze {B : Base} {G : St} {H : AH} {h : Heap} (I : Inv B G H h) {a : Addr} {o : Obj} (e : h.get? a = some o) (n : a ∉ G.adr) (t : a ∉ B.tabP) (g : ∀ o', G.g a = some o' → o' = o) : Inv B (G.put a o) H h where
  sub := fun b o' q => by
    simp only [St.put] at q
    split at q
    · rename_i hb; subst hb; cases q; exact e
    · exact I.sub b o' q
  old := fun b o' q ht => by
    simp only [St.put]
    split
    · rename_i hb; subst hb; rw [g o' (I.old _ _ q ht)]
    · exact I.old b o' q ht
  len := I.len
  nod := I.nod
  off := fun b hb => by
    obtain ⟨x, y, z⟩ := I.off b hb
    refine ⟨?_, y, z⟩
    simp only [St.put]
    split
    · rename_i q; subst q; exact absurd hb n
    · exact x
  objs := fun i o' p x y => AObjOk.mono (G := G) (G' := G.put a o) (fun b o'' q => by
    simp only [St.put]
    split
    · rename_i hb; subst hb; rw [g o'' q]
    · exact q) (fun q_ q_ e => e) (fun q_ q => q) (fun q_ q_ q_ q => q) (I.objs i o' p x y)
theorem Inv.lt {B : Base} {G : St} {H : AH} {h : Heap} (I : Inv B G H h) {a : Addr} (m : a ∈ G.adr) : a < h.objs.size := by
  obtain ⟨_, _, o, e⟩ := I.off a m
  exact Heap.lt_size e
theorem Inv.tabLt {B : Base} {G : St} {H : AH} {h : Heap} (I : Inv B G H h) {a : Addr} (m : a ∈ B.tabP) : a < h.objs.size := nomatch m
theorem Inv.gNew {B : Base} {G : St} {H : AH} {h : Heap} (I : Inv B G H h) {a : Addr} (m : h.objs.size ≤ a) : G.g a = none := by
  cases e : G.g a with
  | none => rfl
  | some o => exact absurd (Heap.lt_size (I.sub a o e)) (Nat.not_lt.mpr m)
theorem Inv.alloc {B : Base} {G : St} {H : AH} {h : Heap} (I : Inv B G H h) (o : Obj) (hf : o.isFreed = false) : Inv B (G.put h.objs.size o) H (h.push o) := by
  have I1 : Inv B G H (h.push o) := I.keeps fun b o' q_ e => Heap.get?_push_of_some _ e
  refine I1.freeze (Heap.get?_push_size _ hf) (fun m => absurd (I.lt m) (Nat.lt_irrefl _)) (fun m => absurd (I.tabLt m) (Nat.lt_irrefl _)) fun o' e => ?_
  rw [I.gNew (Nat.le_refl _)] at e; cases e
set_option tactic.hygienic true in
theorem Step.alloc {B : Base} {G : St} {H : AH} {h : Heap} (I : Inv B G H h) (o : Obj) : Step B Pure G h (G.put h.objs.size o) (h.push o) where
  live := fun b o' q_ e => ⟨o', Heap.get?_push_of_some _ e⟩
  mono := fun b o' e => by
    simp only [St.put]
    split
    · rename_i q; subst q; rw [I.gNew (Nat.le_refl _)] at e; cases e
    · exact e
  ext := fun b o' hb q_ => by
    simp only [St.put]
    rw [if_neg (Nat.ne_of_lt (Heap.lt_size hb))]
  al := ⟨[], (List.append_nil _).symm, fun q_ hm => nomatch hm⟩
  keep := fun b o' q_ q_ q_ e => Heap.get?_push_of_some _ e
theorem St.put_at (G : St) (a : Addr) (o : Obj) : (G.put a o).g a = some o := by simp [St.put]
theorem Step.priv {B : Base} {G : St} {h h' : Heap} (k : ∀ b o, h.get? b = some o → h'.get? b = some o) : Step B Pure G h G h' :=
  ⟨fun b o q_ e => ⟨o, k b o e⟩, fun q_ q_ e => e, fun q_ q_ q_ q_ => rfl, ⟨[], (List.append_nil _).symm, fun q_ hm => nomatch hm⟩, fun b o q_ q_ q_ e => k b o e⟩
end
section
set_option Elab.async false
set_option autoImplicit false
set_option linter.unusedVariables false
set_option tactic.hygienic false
set_option genSizeOf false
set_option genInjectivity false
open PySem PySem.W PyProof.Rows PySem.Calls
structure BaseOk (B : Base) : Prop where
  glb : B.h₀.Ns mainGlobals B.mg
  blt : B.h₀.Ns builtinsNs B.mb
  glbT : mainGlobals ∉ B.tabP
  bltT : builtinsNs ∉ B.tabP
  lim : B.h₀.NoLimit
  limT : cStatics ∉ B.tabP
  val : ∀ (k : Nat) v, B.Gl.val k = some v → ∃ n u, B.T.gnames[k]? = some n ∧ (B.mg (toS n) = some u ∨ (B.mg (toS n) = none ∧ B.mb (toS n) = some u)) ∧
    ∀ G : St, (∀ b o, B.h₀.get? b = some o → b ∉ B.tabP → G.g b = some o) → Rep B G v u
structure Room (A : Around) (n : Nat) : Prop where
  depth : A.depth + n < recursionLimit
  units : A.units + 8 * n + 8 < cLine
  handled : A.handled = none
noncomputable abbrev cellO (v : Option Value) : Obj := { cls := .type "cell", data := .cell v }
noncomputable def CelOk (B : Base) (G : St) (h : Heap) (sc : Scope) (env : Env) (x : Str) (c : Addr) : Option (Option AV) → Prop
  | some (some v) => ∃ o u, G.g c = some o ∧ o.data = .cell (some u) ∧ Rep B G v u
  | _ => isKind sc x .cell = true ∧ (∃ o, h.get? c = some o ∧ o.data = .cell none) ∧ G.g c = none ∧ c ∉ G.adr ∧ c ∉ B.tabP ∧ c ≠ env.locals
noncomputable def Own (sc : Scope) (env : Env) (a : Addr) : Prop := a = env.locals ∨ ∃ x, isKind sc x .cell = true ∧ env.cells.lookup x = some a
structure FrOK (B : Base) (T : Tabs) (sc : Scope) (ns : List (List Nat)) (env : Env) (F : AF) (G : St) (h : Heap) : Prop where
  tg : T.gnames = B.T.gnames
  tm : T.mnames = B.T.mnames
  kl : ∀ x, isKind sc x .local = true → env.kindOf x = some .local
  kc : ∀ x, isKind sc x .cell = true → env.kindOf x = some .cell
  kf : ∀ x, isKind sc x .free = true → env.kindOf x = some .free ∨ env.kindOf x = some .cell
  kg : ∀ x, isKind sc x .globalImplicit = true → env.kindOf x = some .globalImplicit
  kind : env.scope.kind = .function
  glb : env.globals = mainGlobals
  blt : env.builtins = builtinsNs
  nod : ns.Nodup
  len : F.length = ns.length
  lg : G.g env.locals = none
  la : env.locals ∉ G.adr
  lt : env.locals ∉ B.tabP
  loc : ∃ m, h.Ns env.locals m ∧ ∀ (i : Nat) n, ns[i]? = some n → isKind sc (toS n) .local = true → ∀ v, F[i]? = some (some v) → ∃ u, m (toS n) = some u ∧ Rep B G v u
  cel : ∀ (i : Nat) n, ns[i]? = some n → (isKind sc (toS n) .cell = true ∨ isKind sc (toS n) .free = true) → ∃ c, env.cells.lookup (toS n) = some c ∧ CelOk B G h sc env (toS n) c F[i]?
  own : ∀ a, Own sc env a → ∃ o, h.get? a = some o
  apart : ∀ x y c, isKind sc x .cell = true → isKind sc y .cell = true → env.cells.lookup x = some c → env.cells.lookup y = some c → x = y
theorem not_new {B : Base} {X : Addr → Prop} {G G' : St} {h h' : Heap} (st : Step B X G h G' h') {a : Addr} {o : Obj} (n : a ∉ G.adr) (hX : ¬ X a) (l : h.get? a = some o) : a ∉ G'.adr := by
  obtain ⟨k, e, hk⟩ := st.al
  unfold St.adr
  rw [e, adrOf_append]
  intro m
  rcases List.mem_append.mp m with m | m
  · exact n m
  · rw [hk a m hX] at l; cases l
theorem FrOK.stepX {B : Base} {T : Tabs} {sc : Scope} {ns : List (List Nat)} {env : Env} {F : AF} {G G' : St} {h h' : Heap} {X : Addr → Prop} (f : FrOK B T sc ns env F G h) (st : Step B X G h G' h') (ox : ∀ a, Own sc env a → ¬ X a) : FrOK B T sc ns env F G' h' where
  tg := f.tg
  tm := f.tm
  kl := f.kl
  kc := f.kc
  kf := f.kf
  kg := f.kg
  kind := f.kind
  glb := f.glb
  blt := f.blt
  nod := f.nod
  len := f.len
  lg := by
    refine via fun R_ k_ => ?_
    obtain ⟨m, hn, _⟩ := f.loc
    obtain ⟨o, _, _, e, _⟩ := hn
    refine k_ ?_
    rw [st.ext _ o e (ox _ (.inl rfl))]; exact f.lg
  la := by
    refine via fun R_ k_ => ?_
    obtain ⟨m, hn, _⟩ := f.loc
    obtain ⟨o, _, _, e, _⟩ := hn
    refine k_ ?_
    exact not_new st f.la (ox _ (.inl rfl)) e
  lt := f.lt
  loc := by
    refine via fun R_ k_ => ?_
    obtain ⟨m, hn, hm⟩ := f.loc
    obtain ⟨o, es, ep, e, r⟩ := hn
    refine k_ ?_
    refine ⟨m, ⟨o, es, ep, st.keep _ _ (ox _ (.inl rfl)) f.la f.lt e, r⟩, fun i n a b v c => ?_⟩
    obtain ⟨u, x, y⟩ := hm i n a b v c
    exact ⟨u, x, st.rep y⟩
  cel := fun i n a b => by
    obtain ⟨c, e, q⟩ := f.cel i n a b
    refine ⟨c, e, ?_⟩
    cases hF : F[i]? with
    | none =>
      rw [hF] at q
      refine via fun R_ k_ => ?_
      obtain ⟨k, ⟨o, hc, hd⟩, g, x, y, z⟩ := q
      refine k_ ?_
      exact ⟨k, ⟨o, st.keep _ _ (ox _ (.inr ⟨_, k, e⟩)) x y hc, hd⟩, (st.ext _ _ hc (ox _ (.inr ⟨_, k, e⟩))).trans g, not_new st x (ox _ (.inr ⟨_, k, e⟩)) hc, y, z⟩
    | some w =>
      cases w with
      | none =>
        rw [hF] at q
        refine via fun R_ k_ => ?_
        obtain ⟨k, ⟨o, hc, hd⟩, g, x, y, z⟩ := q
        refine k_ ?_
        exact ⟨k, ⟨o, st.keep _ _ (ox _ (.inr ⟨_, k, e⟩)) x y hc, hd⟩, (st.ext _ _ hc (ox _ (.inr ⟨_, k, e⟩))).trans g, not_new st x (ox _ (.inr ⟨_, k, e⟩)) hc, y, z⟩
      | some v =>
        rw [hF] at q
        refine via fun R_ k_ => ?_
        obtain ⟨o, u, g, d, r⟩ := q
        refine k_ ?_
        exact ⟨o, u, st.mono _ _ g, d, st.rep r⟩
  own := fun a ha => (f.own a ha).elim fun o e => st.live a o (ox a ha) e
  apart := f.apart
theorem FrOK.step {B : Base} {T : Tabs} {sc : Scope} {ns : List (List Nat)} {env : Env} {F : AF} {G G' : St} {h h' : Heap} (f : FrOK B T sc ns env F G h) (st : Step B Pure G h G' h') : FrOK B T sc ns env F G' h' :=
  f.stepX st fun q_ q_ q => q
theorem Inv.ns {B : Base} {G : St} {H : AH} {h : Heap} (I : Inv B G H h) {a : Addr} {m : Str → Option Value} (t : a ∉ B.tabP) (n : B.h₀.Ns a m) : h.Ns a m := by
  refine via fun R_ k_ => ?_
  obtain ⟨o, es, ep, e, r⟩ := n
  refine k_ ?_
  exact ⟨o, es, ep, I.sub _ _ (I.old _ _ e t), r⟩
theorem Inv.noLimit {B : Base} {G : St} {H : AH} {h : Heap} (O : BaseOk B) (I : Inv B G H h) : h.NoLimit := by
  obtain ⟨mc, n, e⟩ := O.lim
  exact ⟨mc, I.ns O.limT n, e⟩
section
variable (B : Base) (A : Around)
noncomputable def Ev {α β : Type} (P : St → Heap → Prop) (t : Sem β) (R : St → α → β → Prop) (m : AM α) : Prop :=
  ∀ (s : Shared) (G : St) (H : AH) (x : α) (H' : AH), P G s.heap → Inv B G H s.heap → m H = some (x, H') →
  ∀ (Q : β → Shared → Prop) (E : Value → Shared → Prop), (∀ v G' h' tk', Step B Pure G s.heap G' h' → Inv B G' H' h' → P G' h' → R G' x v → Q v { s with heap := h', toks := tk' }) →
  wpAny (model B.prog B.w) A t Q E s
end
inductive BindR {α β : Type} (m : AM α) (f : α → AM β) (H : AH) (r : β × AH) : Prop
  | mk (x : α) (H1 : AH) (e1 : m H = some (x, H1)) (e2 : f x H1 = some r)
theorem abind_some {α β : Type} {m : AM α} {f : α → AM β} {H : AH} {r : β × AH} (e : abind m f H = some r) : BindR m f H r := by
  unfold abind at e
  cases q : m H with
  | none => rw [q] at e; cases e
  | some p =>
    rw [q] at e
    exact ⟨p.1, p.2, q, e⟩
theorem aopt_some {α : Type} {o : Option α} {H H' : AH} {x : α} (e : aopt o H = some (x, H')) : o = some x ∧ H' = H := by
  cases o with
  | none => cases e
  | some y => cases e; exact ⟨rfl, rfl⟩
theorem apure_some {α : Type} {y : α} {H H' : AH} {x : α} (e : apure y H = some (x, H')) : y = x ∧ H' = H := by
  cases e; exact ⟨rfl, rfl⟩
section
variable {B : Base} {A : Around} {T : Tabs} {sc : Scope} {ns : List (List Nat)} {env : Env} {F : AF}
noncomputable abbrev EvE (B : Base) (A : Around) (T : Tabs) (sc : Scope) (ns : List (List Nat)) (env : Env) (F : AF) (e : Expr) (m : AM AV) : Prop :=
  Ev B A (FrOK B T sc ns env F) (eval e env) (Rep B) m
theorem ev_none {k : Nat} {p : Pos} : EvE B A T sc ns env F (.Constant .none k p) (apure .none) := fun s G H x H' hP I e Q E hQ => by
  obtain ⟨rfl, rfl⟩ := apure_some e
  exact wpAny_Constant_none (hQ .none G s.heap s.toks (Step.refl ..) I hP rfl)
theorem ev_bool {k : Nat} {p : Pos} {b : Bool} : EvE B A T sc ns env F (.Constant (.bool b) k p) (apure (.bool b)) := fun s G H x H' hP I e Q E hQ => by
  obtain ⟨rfl, rfl⟩ := apure_some e
  exact wpAny_Constant_bool (hQ (.bool b) G s.heap s.toks (Step.refl ..) I hP rfl)
theorem ev_int {k : Nat} {p : Pos} {i : Int} : EvE B A T sc ns env F (.Constant (.int i) k p) (apure (.int i)) := fun s G H x H' hP I e Q E hQ => by
  obtain ⟨rfl, rfl⟩ := apure_some e
  exact wpAny_Constant_int (hQ _ G s.heap _ (Step.refl ..) I hP ⟨_, rfl⟩)
theorem ev_str {k : Nat} {p : Pos} {cs : List Nat} {x : Str} (hx : isS cs x = true) : EvE B A T sc ns env F (.Constant (.str x) k p) (apure (.str cs)) := fun s G H y H' hP I e Q E hQ => by
  obtain ⟨rfl, rfl⟩ := apure_some e
  rw [isS_eq hx]
  exact wpAny_Constant_str (hQ _ G s.heap _ (Step.refl ..) I hP ⟨_, rfl⟩)
theorem ev_var {i : Nat} {n : List Nat} {x : Str} {p : Pos} (hn : ns[i]? = some n) (hx : isS n x = true) (hk : inFrame sc x = true) (h1 : (x == ("__debug__" : Str)) = false) (h2 : (x == ("__classdict__" : Str)) = false) :
    EvE B A T sc ns env F (.Name x p) (aopt (F[i]?.join)) := fun s G H y H' hP I e Q E hQ => by
  obtain ⟨e1, rfl⟩ := aopt_some e
  have eF : F[i]? = some (some y) := by
    cases q : F[i]? with
    | none => rw [q] at e1; cases e1
    | some w => rw [q] at e1; cases w with
      | none => cases e1
      | some z => cases e1; rfl
  have hx' := isS_eq hx
  subst hx'
  refine wpAny_Name ?_ h1
  have done : ∀ v, Rep B G y v → Q v s := fun v r => hQ v G s.heap s.toks (Step.refl ..) I hP r
  unfold inFrame at hk
  simp only [Bool.or_eq_true] at hk
  rcases hk with (hk | hk) | hk
  · refine via fun R_ k_ => ?_
    obtain ⟨m, hm, hl⟩ := hP.loc
    obtain ⟨u, a, b⟩ := hl i n hn hk y eF
    refine k_ ?_
    exact wpAny_loadName_local hP.kind (hP.kl _ hk) hm a (done u b)
  · obtain ⟨c, e2, q⟩ := hP.cel i n hn (.inl hk)
    rw [eF] at q
    refine via fun R_ k_ => ?_
    obtain ⟨o, u, g, d, r⟩ := q
    refine k_ ?_
    exact wpAny_loadName_cell hP.kind (hP.kc _ hk) e2 ⟨o, I.sub _ _ g, d⟩ (done u r)
  · obtain ⟨c, e2, q⟩ := hP.cel i n hn (.inr hk)
    rw [eF] at q
    refine via fun R_ k_ => ?_
    obtain ⟨o, u, g, d, r⟩ := q
    refine k_ ?_
    rcases hP.kf _ hk with k | k
    · exact wpAny_loadName_free hP.kind k e2 ⟨o, I.sub _ _ g, d⟩ (done u r) h2
    · exact wpAny_loadName_cell hP.kind k e2 ⟨o, I.sub _ _ g, d⟩ (done u r)
theorem ev_gl (O : BaseOk B) {k : Nat} {n : List Nat} {x : Str} {p : Pos} (hn : T.gnames[k]? = some n) (hx : isS n x = true) (hk : isKind sc x .globalImplicit = true) (h1 : (x == ("__debug__" : Str)) = false) :
    EvE B A T sc ns env F (.Name x p) (aopt (B.Gl.val k)) := fun s G H y H' hP I e Q E hQ => by
  obtain ⟨e1, rfl⟩ := aopt_some e
  obtain ⟨n', u, a, b, r⟩ := O.val k y e1
  rw [hP.tg] at hn
  rw [hn] at a; cases a
  have hx' := isS_eq hx
  subst hx'
  refine wpAny_Name ?_ h1
  rw [loadName_read hP.kind (hP.kg _ hk)]
  have q := hQ u G s.heap s.toks (Step.refl ..) I hP (r G I.old)
  have g1 : s.heap.Ns env.globals B.mg := hP.glb ▸ I.ns O.glbT O.glb
  have g2 : s.heap.Ns env.builtins B.mb := hP.blt ▸ I.ns O.bltT O.blt
  rcases b with b | ⟨b1, b2⟩
  · exact loadGlobal_global g1 b q
  · exact loadGlobal_builtin g1 b1 g2 b2 q
theorem starEach_cons {x : Expr} {xs : List Expr} (h : isStar x = false) : starEach (x :: xs) env = (false, eval x env) :: starEach xs env := by
  cases x <;> first | rfl | cases h
noncomputable abbrev EvL (B : Base) (A : Around) (T : Tabs) (sc : Scope) (ns : List (List Nat)) (env : Env) (F : AF) (p : Pos) (es : List Expr) (m : AM (List AV)) : Prop :=
  Ev B A (FrOK B T sc ns env F) (spliced (backTo p (starEach es env))) (RepL B) m
theorem evl_nil {p : Pos} : EvL B A T sc ns env F p [] (apure []) := fun s G H x H' hP I e Q E hQ => by
  obtain ⟨rfl, rfl⟩ := apure_some e
  exact wpAny_items_nil (hQ [] G s.heap s.toks (Step.refl ..) I hP rfl)
theorem evl_cons {p : Pos} {e : Expr} {es : List Expr} {m : AM AV} {ms : AM (List AV)} (hs : isStar e = false) (h : EvE B A T sc ns env F e m) (hr : EvL B A T sc ns env F p es ms) :
    EvL B A T sc ns env F p (e :: es) (abind m fun x => abind ms fun xs => apure (x :: xs)) := fun s G H x H' hP I eq Q E hQ => by
  obtain ⟨y, H1, e1, eq⟩ := abind_some eq
  obtain ⟨ys, H2, e2, eq⟩ := abind_some eq
  obtain ⟨rfl, rfl⟩ := apure_some eq
  refine wpAny_items_cons (h s G H y H1 hP I e1 _ _ fun v G1 h1 t1 s1 I1 P1 r1 => ?_) (starEach_cons hs)
  exact hr _ G1 H1 ys _ P1 I1 e2 _ _ fun vs G2 h2 t2 s2 I2 P2 r2 => hQ _ G2 h2 t2 (s1.trans s2) I2 P2 ⟨v, vs, rfl, s2.rep r1, r2⟩
theorem RepL.len {G : St} : ∀ {xs : List AV} {vs : List Value}, RepL B G xs vs → vs.length = xs.length
  | [], _, h => by rw [show _ = [] from h]; rfl
  | _ :: _, _, ⟨v, r, e, _, b⟩ => by rw [e, List.length_cons, List.length_cons, b.len]
theorem ev_tup {p : Pos} {k : Nat} {es : List Expr} {ms : AM (List AV)} (h : EvL B A T sc ns env F p es ms) (hl : ∀ H xs H', ms H = some (xs, H') → xs.length ≤ 1000) :
    EvE B A T sc ns env F (.Tuple es k p) (abind ms fun xs => apure (.tup xs)) := fun s G H x H' hP I eq Q E hQ => by
  obtain ⟨xs, H1, e1, eq⟩ := abind_some eq
  obtain ⟨rfl, rfl⟩ := apure_some eq
  refine wpAny_Tuple (h s G H xs _ hP I e1 _ _ fun vs G1 h1 t1 s1 I1 P1 r1 => ⟨?_, ?_⟩)
  · have := hl _ _ _ e1
    rw [r1.len]
    have : sizeLine = 2 ^ 24 := rfl
    omega
  · have s2 := Step.alloc I1 (tplO vs.toArray 0)
    exact hQ _ _ _ _ (s1.trans s2) (I1.alloc _ rfl) (P1.step s2) ⟨_, vs.toArray, 0, rfl, St.put_at .., s2.repL r1⟩
end
end
section
set_option Elab.async false
set_option autoImplicit false
set_option linter.unusedVariables false
set_option tactic.hygienic false
set_option genSizeOf false
set_option genInjectivity false
open PySem PySem.W PyProof.Rows PySem.Calls
open AutoSeq1 (wpAny_loadPart')
theorem fmod_pos {a b : Int} (h : 0 < b) : Int.fmod a b = a % b := by
  rw [Int.fmod_eq_emod_of_nonneg _ (Int.le_of_lt h)]
theorem fdiv_pos {a b : Int} (h : 0 < b) : Int.fdiv a b = a / b := by
  rw [Int.fdiv_eq_ediv_of_nonneg _ (Int.le_of_lt h)]
theorem repL_append {B : Base} {G : St} : ∀ {xs ys : List AV} {vs ws : List Value}, RepL B G xs vs → RepL B G ys ws → RepL B G (xs ++ ys) (vs ++ ws)
  | [], _, _, _, h, k => by rw [show _ = [] from h]; exact k
  | _ :: _, _, _, _, ⟨v, r, e, a, b⟩, k => by rw [e]; exact ⟨v, r ++ _, rfl, a, repL_append b k⟩
theorem repL_rep {B : Base} {G : St} {xs : List AV} {vs : List Value} (h : RepL B G xs vs) : ∀ n : Nat, RepL B G (List.replicate n xs).flatten (List.replicate n vs).flatten
  | 0 => by show RepL B G [] []; exact (rfl : ([] : List Value) = [])
  | n + 1 => by
    rw [List.replicate_succ, List.replicate_succ, List.flatten_cons, List.flatten_cons]
    exact repL_append h (repL_rep h n)
theorem foldl_app {α : Type} (xs : Array α) : ∀ (n : Nat) (acc : Array α), (List.foldl (fun x1 x2 => x1 ++ x2) acc (List.replicate n xs)).toList = acc.toList ++ (List.replicate n xs.toList).flatten
  | 0, acc => by simp
  | n + 1, acc => by
    rw [List.replicate_succ, List.foldl_cons, foldl_app xs n]
    simp [List.replicate_succ]
theorem noFill_tuple_mul : fillsNumberSlot (.type "tuple") "mul" = pure false :=
  PySem.fillsNumberSlot_seq (id := "tuple.__mul__") (r := some (.builtin "tuple.__rmul__")) F.slot_tuple_mul.lookup (by decide +kernel) F.slot_tuple_rmul.lookup (by decide +kernel)
theorem repeat_tuple : seqRepeat? (.type "tuple") = pure (some (.builtin "tuple.__mul__")) := by
  unfold seqRepeat?
  rw [PySem.seqSlot_of (T := "tuple") (name := "__mul__") (id := "tuple.__mul__") F.slot_tuple_mul.lookup (by decide +kernel), PySem.seqSlot_of (T := "tuple") (name := "__rmul__") (id := "tuple.__rmul__") F.slot_tuple_rmul.lookup (by decide +kernel)]
  rfl
theorem tuple_mul_same (l : Addr) (items : Array Value) (n : Nat) (x : Int) (u : Tok) (h0 : -(2 ^ 63) ≤ x) (h0' : x < 2 ^ 63) (h1 : (items.isEmpty || x == 1) = true) :
    Meets (Builtin.«tuple.__mul__» ⟨[.ref l, .int x u], []⟩) (fun q_ R s => s.heap.get? l = some { cls := .type "tuple", dict := none, data := .seq items n, slots := #[] } ∧ R (.ok (.ret (Value.ref l))) { s with heap := s.heap, toks := s.toks }) :=
  .of_wp fun prog w A R s h => by
    obtain ⟨hp, g, d, tk, os⟩ := s; obtain ⟨hl, h⟩ := h; have f1 := AutoSeq1.idx_int; have f2 := AutoSeq1.sub_tuple_tuple
    wp_walk using wpAny_loadPart' hl
    refine wpAny_ite_false (decide_eq_false (by simp only [Bool.or_eq_true, decide_eq_true_eq, not_or]; omega)) ?_
    wp_walk using wpAny_loadPart' hl
    exact ⟨_, rfl, h⟩
theorem tuple_mul_none (l : Addr) (items : Array Value) (n : Nat) (x : Int) (u : Tok) (h0 : -(2 ^ 63) ≤ x) (h1 : ¬ (items.isEmpty || x == 1) = true) (h2 : x ≤ 0) :
    Meets (Builtin.«tuple.__mul__» ⟨[.ref l, .int x u], []⟩) (fun q_ R s => s.heap.get? l = some { cls := .type "tuple", dict := none, data := .seq items n, slots := #[] } ∧ R (.ok (.ret (Value.ref s.heap.objs.size))) { s with heap := s.heap.push { cls := .type "tuple", data := .seq #[] }, toks := s.toks }) :=
  .of_wp fun prog w A R s h => by
    obtain ⟨hp, g, d, tk, os⟩ := s; obtain ⟨hl, h⟩ := h; have f1 := AutoSeq1.idx_int; have f2 := AutoSeq1.sub_tuple_tuple
    wp_walk using wpAny_loadPart' hl
    refine wpAny_ite_false (decide_eq_false (by simp only [Bool.or_eq_true, decide_eq_true_eq, not_or]; omega)) ?_
    wp_walk using wpAny_loadPart' hl
    exact ⟨_, rfl, h⟩
theorem tuple_mul_some (l : Addr) (items : Array Value) (n : Nat) (x : Int) (u : Tok) (h1 : ¬ (items.isEmpty || x == 1) = true) (h2 : 0 < x) (h3 : items.size ≤ 8) (h4 : x ≤ 1000) :
    Meets (Builtin.«tuple.__mul__» ⟨[.ref l, .int x u], []⟩) (fun q_ R s => s.heap.get? l = some { cls := .type "tuple", dict := none, data := .seq items n, slots := #[] } ∧ R (.ok (.ret (Value.ref s.heap.objs.size))) { s with heap := s.heap.push { cls := .type "tuple", data := .seq (List.foldl (fun x1 x2 => x1 ++ x2) #[] (List.replicate x.toNat items)) }, toks := s.toks }) :=
  .of_wp fun prog w A R s h => by
    obtain ⟨hp, g, d, tk, os⟩ := s; obtain ⟨hl, h⟩ := h; have f1 := AutoSeq1.idx_int; have f2 := AutoSeq1.sub_tuple_tuple
    have e : items.isEmpty = false := by
      cases q : items.isEmpty with
      | true => rw [q] at h1; exact absurd rfl h1
      | false => rfl
    have hb : (items.size : Int) * x ≤ 8000 := by
      have : (items.size : Int) * x ≤ 8 * x := Int.mul_le_mul_of_nonneg_right (by omega) (by omega)
      omega
    have hs : (List.foldl (fun x1 x2 => x1 ++ x2) #[] (List.replicate x.toNat items)).size ≤ sizeLine := by
      rw [AutoListH.size_joined, sizeLine_eq]
      have : x.toNat * items.size ≤ 1000 * 8 := Nat.mul_le_mul (by omega) h3
      simp only [Array.size_empty]; omega
    wp_walk using wpAny_loadPart' hl
    refine wpAny_ite_false (decide_eq_false (by simp only [Bool.or_eq_true, decide_eq_true_eq, not_or]; omega)) ?_
    wp_walk using wpAny_loadPart' hl
    refine wpAny_ite_false (decide_eq_false (by omega)) ?_
    wp_walk using wpAny_loadPart' hl
    refine wpAny_ite_false (decide_eq_false (by omega)) ?_
    wp_walk using wpAny_loadPart' hl
    refine wpAny_ite_false (decide_eq_false (fun q => absurd (of_decide_eq_true q) (by rw [sizeLine_eq]; omega))) ?_
    wp_walk using wpAny_loadPart' hl
    exact ⟨_, rfl, h⟩
end
section
set_option Elab.async false
set_option autoImplicit false
set_option linter.unusedVariables false
set_option tactic.hygienic false
set_option genSizeOf false
set_option genInjectivity false
open PySem PySem.W PyProof.Rows PySem.Calls
open AutoSeq1 (wpAny_loadPart')
theorem int___rmul___int_tuple (a : Int) (t : Tok) (l : Addr) (items : Array Value) (n : Nat) :
    Meets (Builtin.«int.__rmul__» ⟨[.int a t, .ref l], []⟩) (fun q_ R s => s.heap.get? l = some { cls := .type "tuple", dict := none, data := .seq items n, slots := #[] } ∧ R (.ok (.ret Value.notImplemented)) s) :=
  .of_wp fun prog w A R s h => by obtain ⟨hp, g, d, tk, os⟩ := s; obtain ⟨hl, h⟩ := h; wp_walk; exact ⟨_, rfl, h⟩
theorem nos {α : Type} {P : Prop} {z : α} (h : (none : Option α) = some z) : P := nomatch h
theorem aif_some {b : Prop} [Decidable b] {α : Type} {x y : α} (h : aif b x = some y) : b ∧ x = y := by
  unfold aif at h
  by_cases q : b
  · rw [if_pos q] at h; cases h; exact ⟨q, rfl⟩
  · rw [if_neg q] at h; cases h
inductive MapR {α β : Type} (o : Option α) (f : α → β) (z : β) : Prop
  | mk (a : α) (e : o = some a) (e2 : f a = z)
theorem map_some {α β : Type} {o : Option α} {f : α → β} {z : β} (h : o.map f = some z) : MapR o f z := (Option.map_eq_some_iff.mp h).elim fun a h => ⟨a, h.1, h.2⟩
theorem bind_some {α β : Type} {o : Option α} {f : α → Option β} {z : β} (h : o.bind f = some z) : MapR o f (some z) := (Option.bind_eq_some_iff.mp h).elim fun a h => ⟨a, h.1, h.2⟩
theorem truthA_some : ∀ {v : AV} {b : Bool}, truthA v = some b → v = .bool b := fun {v i} h => by
  cases v with
  | bool j => exact congrArg AV.bool (Option.some.inj h)
  | _ => exact nos h
theorem toInt_some : ∀ {v : AV} {i : Int}, toInt v = some i → v = .int i := fun {v i} h => by
  cases v with
  | int j => exact congrArg AV.int (Option.some.inj h)
  | _ => exact nos h
theorem toStr_some : ∀ {v : AV} {i : List Nat}, toStr v = some i → v = .str i := fun {v i} h => by
  cases v with
  | str j => exact congrArg AV.str (Option.some.inj h)
  | _ => exact nos h
theorem toTup_some : ∀ {v : AV} {i : List AV}, toTup v = some i → v = .tup i := fun {v i} h => by
  cases v with
  | tup j => exact congrArg AV.tup (Option.some.inj h)
  | _ => exact nos h
theorem toLst_some : ∀ {v : AV} {i : List AV}, toLst v = some i → v = .lst i := fun {v i} h => by
  cases v with
  | lst j => exact congrArg AV.lst (Option.some.inj h)
  | _ => exact nos h
theorem toObj_some : ∀ {v : AV} {i : Nat}, toObj v = some i → v = .obj i := fun {v i} h => by
  cases v with
  | obj j => exact congrArg AV.obj (Option.some.inj h)
  | _ => exact nos h
theorem isNone_eq : ∀ {v : AV}, v.isNone = true → v = .none := fun {v} h => by
  cases v with
  | none => rfl
  | _ => exact bad h
theorem one_some : ∀ {xs : List AV} {x : AV}, one xs = some x → xs = [x]
  | [_], _, h => by cases h; rfl
theorem two_some : ∀ {xs : List AV} {x : AV × AV}, two xs = some x → xs = [x.1, x.2]
  | [_, _], _, h => by cases h; rfl
theorem listAt_some {H : AH} {n : Nat} {xs : List AV} (h : listAt H n = some xs) : H[n]? = some (.list xs) := by
  unfold listAt at h
  revert h
  cases H[n]? with
  | none => exact fun h => nos h
  | some o => cases o with
    | list ys => exact fun h => by cases h; rfl
    | inst c f => exact fun h => nos h
noncomputable def Yields (B : Base) (A : Around) (t : Sem Value) (G : St) (H H' : AH) (z : AV) (s : Shared) : Prop :=
  ∀ (Q : Value → Shared → Prop) (E : Value → Shared → Prop), (∀ v G' h' tk', Step B Pure G s.heap G' h' → Inv B G' H' h' → Rep B G' z v → Q v { s with heap := h', toks := tk' }) →
    wpAny (model B.prog B.w) A t Q E s
theorem le_line {n : Nat} (h : decide (n ≤ line) = true) : n ≤ 1048576 := of_decide_eq_true h
section
variable {B : Base} {A : Around} {G : St} {H : AH} {s : Shared}
theorem yields_val {t : Sem Value} {z : AV} {v : Value} (I : Inv B G H s.heap) (r : Rep B G z v)
    (h : ∀ (Q : Value → Shared → Prop) (E : Value → Shared → Prop), (∀ tk, Q v { s with toks := tk }) → wpAny (model B.prog B.w) A t Q E s) : Yields B A t G H H z s := fun Q E hQ =>
  h Q E fun tk => hQ v G s.heap tk (Step.refl ..) I r
theorem yields_int {t : Sem Value} {z : Int} (I : Inv B G H s.heap)
    (h : ∀ (Q : Value → Shared → Prop) (E : Value → Shared → Prop), (∀ u tk, Q (.int z u) { s with toks := tk }) → wpAny (model B.prog B.w) A t Q E s) : Yields B A t G H H (.int z) s := fun Q E hQ =>
  h Q E fun u tk => hQ _ G s.heap tk (Step.refl ..) I ⟨u, rfl⟩
theorem yields_str {t : Sem Value} {z : List Nat} (I : Inv B G H s.heap)
    (h : ∀ (Q : Value → Shared → Prop) (E : Value → Shared → Prop), (∀ u tk, Q (.str (toS z) u) { s with toks := tk }) → wpAny (model B.prog B.w) A t Q E s) : Yields B A t G H H (.str z) s := fun Q E hQ =>
  h Q E fun u tk => hQ _ G s.heap tk (Step.refl ..) I ⟨u, rfl⟩
theorem yields_tup {t : Sem Value} {z : List AV} {vs : Array Value} (I : Inv B G H s.heap) (r : RepL B G z vs.toList)
    (h : ∀ (Q : Value → Shared → Prop) (E : Value → Shared → Prop), (∀ tk, Q (.ref s.heap.objs.size) { s with heap := s.heap.push (tplO vs 0), toks := tk }) → wpAny (model B.prog B.w) A t Q E s) : Yields B A t G H H (.tup z) s := fun Q E hQ =>
  h Q E fun tk => by
    have st := Step.alloc I (tplO vs 0)
    exact hQ _ _ _ _ st (I.alloc _ rfl) ⟨_, vs, 0, rfl, St.put_at .., st.repL r⟩
theorem yields_lst {t : Sem Value} {z : List AV} {vs : Array Value} (I : Inv B G H s.heap) (r : RepL B G z vs.toList)
    (h : ∀ (Q : Value → Shared → Prop) (E : Value → Shared → Prop), (∀ tk, Q (.ref s.heap.objs.size) { s with heap := s.heap.push (lstO vs 0), toks := tk }) → wpAny (model B.prog B.w) A t Q E s) : Yields B A t G H H (.lst z) s := fun Q E hQ =>
  h Q E fun tk => by
    have st := Step.alloc I (lstO vs 0)
    exact hQ _ _ _ _ st (I.alloc _ rfl) ⟨_, vs, 0, rfl, St.put_at .., st.repL r⟩
theorem toS_append (a b : List Nat) : toS a ++ toS b = toS (a ++ b) := by
  show (⟨a.toArray ++ b.toArray⟩ : Str) = ⟨(a ++ b).toArray⟩
  simp
theorem toS_length (a : List Nat) : (toS a).length = a.length := by
  show a.toArray.size = a.length
  simp
theorem op2_eq {o : Op2} {p : Operator} (h : op2 o p = true) : p = o.op := of_decide_eq_true h
theorem size_of {xs : List AV} {vs : Array Value} (r : RepL B G xs vs.toList) : vs.size = xs.length := by
  rw [← r.len, Array.length_toList]
theorem add_tup {a b : List AV} {v w : Value} (hb : a.length + b.length ≤ 1048576) (I : Inv B G H s.heap) (rx : Rep B G (.tup a) v) (ry : Rep B G (.tup b) w) : Yields B A (binaryOp .Add v w) G H H (.tup (a ++ b)) s := by
  obtain ⟨l, vs, n, rfl, g, r⟩ := rx
  obtain ⟨b, ws, k, rfl, g', r'⟩ := ry
  have ho := I.sub _ _ g
  have ho2 := I.sub _ _ g'
  have z1 := size_of r
  have z2 := size_of r'
  have road := fun {S : PySem.Spec} {Q E : Value → Shared → Prop} => concat_meets (prog := B.prog) (w := B.w) (A := A) (s := s) (a := .ref l) (b := .ref b) (T := "tuple") (S := S) (Q := Q) (E := E) ⟨_, ho, rfl⟩ ⟨_, ho2, rfl⟩ noFill_tuple_add seq_tuple_add PySem.F.slot_tuple_add PySem.F.entry_tuple_add (PySem.F.args_tuple_add_2 _ _)
  by_cases h0 : vs.isEmpty = true
  · refine yields_val I (v := .ref b) ⟨b, ws, k, rfl, g', ?_⟩ fun Q E hQ => road (tuple_addW0 l b vs ws n k none none #[] #[] h0) ⟨ho, ho2, hQ s.toks⟩
    rw [Array.isEmpty_iff_size_eq_zero] at h0
    have : vs.toList = [] := by rw [← List.length_eq_zero_iff, Array.length_toList]; exact h0
    rw [this] at r
    have := repL_append r r'
    rwa [List.nil_append] at this
  · by_cases h1 : ws.isEmpty = true
    · refine yields_val I (v := .ref l) ⟨l, vs, n, rfl, g, ?_⟩ fun Q E hQ => road (tuple_addW1 l b vs ws n k none none #[] #[] h0 h1) ⟨ho, ho2, hQ s.toks⟩
      rw [Array.isEmpty_iff_size_eq_zero] at h1
      have : ws.toList = [] := by rw [← List.length_eq_zero_iff, Array.length_toList]; exact h1
      rw [this] at r'
      have := repL_append r r'
      rwa [List.append_nil] at this
    · exact yields_tup (vs := vs ++ ws) I (by rw [Array.toList_append]; exact repL_append r r') fun Q E hQ => road (tuple_addW2 l b vs ws n k none none #[] #[] h0 h1 (by rw [z1, z2, sizeLine_eq]; omega)) ⟨ho, ho2, hQ s.toks⟩
theorem add_lst {a b : List AV} {v w : Value} (hb : a.length + b.length ≤ 1048576) (I : Inv B G H s.heap) (rx : Rep B G (.lst a) v) (ry : Rep B G (.lst b) w) : Yields B A (binaryOp .Add v w) G H H (.lst (a ++ b)) s := by
  obtain ⟨l, vs, n, rfl, g, r⟩ := rx
  obtain ⟨b, ws, k, rfl, g', r'⟩ := ry
  have ho := I.sub _ _ g
  have ho2 := I.sub _ _ g'
  have z1 := size_of r
  have z2 := size_of r'
  exact yields_lst (vs := vs ++ ws) I (by rw [Array.toList_append]; exact repL_append r r') fun Q E hQ =>
        concat_meets ⟨_, ho, rfl⟩ ⟨_, ho2, rfl⟩ noFill_list_add seq_list_add PySem.F.slot_list_add PySem.F.entry_list_add (PySem.F.args_list_add_2 _ _) (list_addW l b vs ws n k none none #[] #[] (by rw [z1, z2, sizeLine_eq]; omega)) ⟨ho, ho2, hQ s.toks⟩
theorem few_i {a : Nat} {n : Int} (h : few a n = true) : a ≤ 8 ∧ n ≤ 1000 ∧ 0 ≤ n := by
  simp only [few, Bool.and_eq_true, decide_eq_true_eq] at h
  exact ⟨h.1.1, h.1.2, h.2⟩
theorem mul_tup {a : List AV} {k : Int} {v w : Value} (b1 : a.length ≤ 8) (b2 : k ≤ 1000) (b3 : 0 ≤ k) (I : Inv B G H s.heap) (rx : Rep B G (.tup a) v) (ry : Rep B G (.int k) w) : Yields B A (binaryOp .Mult v w) G H H (.tup (rep a k)) s := by
  obtain ⟨l, vs, n, rfl, g, r⟩ := rx
  obtain ⟨u, rfl⟩ := ry
  have hl := I.sub _ _ g
  have z1 := size_of r
  have road := fun {Q E : Value → Shared → Prop} hq => wpAny_binaryOp_repeat_ref (M := model B.prog B.w) (A := A) (s := s) (a := .ref l) (n := .int k u) (Q := Q) (E := E) (T := "tuple") (U := "int") (by decide) ⟨_, hl, rfl⟩ (fun s' => typeIs_int s' k u) noFill_tuple_mul F.fills_int_mul F.slot_int_rmul repeat_tuple F.slot_int_index.lookup
    (call_meets F.slot_int_rmul (typeIs_int s k u) F.entry_int_rmul (F.args_int_rmul_2 _ _) (int___rmul___int_tuple k u l vs n) ⟨hl, rfl, ⟨_, hl, rfl⟩, hq⟩)
  by_cases h0 : (vs.isEmpty || k == 1) = true
  · refine yields_val I (v := .ref l) ⟨l, vs, n, rfl, g, ?_⟩ fun Q E hQ => road (call_meets F.slot_tuple_mul ⟨_, hl, rfl⟩ F.entry_tuple_mul (F.args_tuple_mul_2 _ _) (tuple_mul_same l vs n k u (by omega) (by omega) h0) ⟨hl, hQ s.toks⟩)
    rw [Bool.or_eq_true] at h0
    rcases h0 with h0 | h0
    · rw [Array.isEmpty_iff_size_eq_zero] at h0
      have : vs.toList = [] := by rw [← List.length_eq_zero_iff, Array.length_toList]; exact h0
      have : a = [] := by rw [← List.length_eq_zero_iff]; omega
      subst this
      unfold rep
      simpa using r
    · have : k = 1 := by simpa using h0
      subst this
      unfold rep
      simpa using r
  · by_cases h1 : k ≤ 0
    · refine yields_tup (vs := #[]) I ?_ fun Q E hQ => road (call_meets F.slot_tuple_mul ⟨_, hl, rfl⟩ F.entry_tuple_mul (F.args_tuple_mul_2 _ _) (tuple_mul_none l vs n k u (by omega) h0 h1) ⟨hl, hQ s.toks⟩)
      have : k.toNat = 0 := by omega
      unfold rep
      rw [this]
      exact (rfl : ([] : List Value) = [])
    · refine yields_tup (vs := List.foldl (fun x1 x2 => x1 ++ x2) #[] (List.replicate k.toNat vs)) I ?_ fun Q E hQ => road (call_meets F.slot_tuple_mul ⟨_, hl, rfl⟩ F.entry_tuple_mul (F.args_tuple_mul_2 _ _) (tuple_mul_some l vs n k u h0 (by omega) (by omega) (by omega)) ⟨hl, hQ s.toks⟩)
      rw [foldl_app]
      exact repL_rep r _
set_option tactic.hygienic true in
theorem mul_lst {a : List AV} {k : Int} {v w : Value} (b1 : a.length ≤ 8) (b2 : k ≤ 1000) (b3 : 0 ≤ k) (I : Inv B G H s.heap) (rx : Rep B G (.lst a) v) (ry : Rep B G (.int k) w) : Yields B A (binaryOp .Mult v w) G H H (.lst (rep a k)) s := by
  obtain ⟨l, vs, n, rfl, g, r⟩ := rx
  obtain ⟨u, rfl⟩ := ry
  have hl := I.sub _ _ g
  have z1 := size_of r
  have hz : vs.size * k.toNat ≤ 8000 := by
    have : vs.size * k.toNat ≤ 8 * 1000 := Nat.mul_le_mul (by omega) (by omega)
    omega
  refine yields_lst (vs := List.foldl (fun x1 x2 => x1 ++ x2) #[] (List.replicate (if vs.isEmpty = true then 0 else k.toNat) vs)) I ?_ fun Q E hQ =>
    wpAny_binaryOp_repeat_ref (T := "list") (U := "int") (by decide) ⟨_, hl, rfl⟩ (fun s' => typeIs_int s' k u) noFill_list_mul F.fills_int_mul F.slot_int_rmul repeat_list F.slot_int_index.lookup
      (call_meets F.slot_int_rmul (typeIs_int s k u) F.entry_int_rmul (F.args_int_rmul_2 _ _) (int___rmul___int_list k u l vs n)
        ⟨hl, rfl, ⟨_, hl, rfl⟩, call_meets F.slot_list_mul ⟨_, hl, rfl⟩ F.entry_list_mul (F.args_list_mul_2 _ _)
          (AutoListH.list___mul___list_int_3 l vs n k u (by simp [Builtin.List.listFitsIndex]; omega) (by omega) (by simp [Builtin.List.listTooLong, sizeLine]; omega)) ⟨hl, hQ s.toks⟩⟩)
  rw [foldl_app]
  split
  · rename_i h0
    rw [Array.isEmpty_iff_size_eq_zero] at h0
    have : a = [] := by rw [← List.length_eq_zero_iff]; omega
    subst this
    unfold rep
    simp [RepL]
  · exact repL_rep r _
set_option tactic.hygienic true in
theorem mul_str {a : List Nat} {k : Int} {v w : Value} (b1 : a.length ≤ 8) (b2 : k ≤ 1000) (b3 : 0 ≤ k) (I : Inv B G H s.heap) (rx : Rep B G (.str a) v) (ry : Rep B G (.int k) w) : Yields B A (binaryOp .Mult v w) G H H (.str (rep a k)) s := by
  obtain ⟨t, rfl⟩ := rx
  obtain ⟨u, rfl⟩ := ry
  have hlen : (toS a).length = a.length := toS_length a
  refine yields_str I fun Q E hQ => P.mul_str (by rw [Bool.or_eq_false_iff]; exact ⟨decide_eq_false (by omega), decide_eq_false (by omega)⟩) (fun h1 q_ => ?_) (fun q_ q_ => ?_) ?_
  · have : (8 : Int) ≤ (2 ^ 63 - 1) / k := Int.le_ediv_of_mul_le (by omega) (by omega)
    omega
  · have : a.length * k.toNat ≤ 8 * 1000 := Nat.mul_le_mul (by omega) (by omega)
    rw [hlen]
    exact decide_eq_false (by rw [sizeLine_eq]; omega)
  · split
    · have : k.toNat = 0 := by omega
      unfold rep at hQ
      rw [this] at hQ
      exact ⟨by decide, hQ _ _⟩
    · split
      · rename_i h0
        have : rep a k = a := by
          rw [Bool.or_eq_true] at h0
          unfold rep
          rcases h0 with h0 | h0
          · have : k = 1 := by simpa using h0
            subst this; simp
          · have : a = [] := by rw [← List.length_eq_zero_iff]; rw [hlen] at h0; simpa using h0
            subst this; simp
        rw [this] at hQ
        exact hQ _ _
      · have q : (⟨(List.replicate k.toNat (toS a).cps).foldl (· ++ ·) #[]⟩ : Str) = toS (rep a k) := by
          unfold toS rep
          congr 1
          apply Array.toList_inj.mp
          rw [foldl_app]; simp
        rw [q]
        exact ⟨by
          have : (rep a k).length ≤ 8 * 1000 := by
            unfold rep
            rw [List.length_flatten, List.map_replicate, List.sum_replicate_nat]
            have := Nat.mul_le_mul (show k.toNat ≤ 1000 by omega) (show a.length ≤ 8 by omega)
            omega
          first | (rw [toS_length, sizeLine_eq]; omega) | (exact decide_eq_false (by rw [toS_length, sizeLine_eq]; omega)), hQ _ _⟩
theorem op_add {x y z : AV} {v w : Value} (e : addA x y = some z) (I : Inv B G H s.heap) (rx : Rep B G x v) (ry : Rep B G y w) : Yields B A (binaryOp .Add v w) G H H z s := by
  cases x with
  | int a =>
    obtain ⟨b, hb, rfl⟩ := map_some (o := toInt y) e
    have hb := toInt_some hb
    subst hb
    obtain ⟨t, rfl⟩ := rx; obtain ⟨u, rfl⟩ := ry
    exact yields_int I fun Q E hQ => P.add_int (hQ _ _)
  | str a =>
    obtain ⟨b, hb, e⟩ := bind_some (o := toStr y) e
    have hb := toStr_some hb
    subst hb
    obtain ⟨hb, rfl⟩ := aif_some e
    obtain ⟨t, rfl⟩ := rx; obtain ⟨u, rfl⟩ := ry
    refine yields_str I fun Q E hQ => PyProof.Rows.add_str (fun u tk => ?_) (by rw [toS_length, toS_length, sizeLine_eq]; exact Nat.le_trans hb (by decide))
    rw [toS_append]; exact hQ u tk
  | tup a =>
    obtain ⟨b, hb, e⟩ := bind_some (o := toTup y) e
    have hb := toTup_some hb
    subst hb
    obtain ⟨hb, rfl⟩ := aif_some e
    exact add_tup hb I rx ry
  | lst a =>
    obtain ⟨b, hb, e⟩ := bind_some (o := toLst y) e
    have hb := toLst_some hb
    subst hb
    obtain ⟨hb, rfl⟩ := aif_some e
    exact add_lst hb I rx ry
  | _ => exact nos e
theorem op_mul {x y z : AV} {v w : Value} (e : mulA x y = some z) (I : Inv B G H s.heap) (rx : Rep B G x v) (ry : Rep B G y w) : Yields B A (binaryOp .Mult v w) G H H z s := by
  obtain ⟨k, hk, e⟩ := bind_some (o := toInt y) e
  have hk := toInt_some hk
  subst hk
  cases x with
  | int a =>
    obtain ⟨hb, rfl⟩ := aif_some e
    obtain ⟨t, rfl⟩ := rx; obtain ⟨u, rfl⟩ := ry
    exact yields_int I fun Q E hQ => P.mul_int (hQ _ _) (hm := IntMulOk.of_right (intBits_le_64 (by omega) (by omega)))
  | tup a =>
    obtain ⟨hb, rfl⟩ := aif_some e
    have hb := few_i hb
    exact mul_tup hb.1 hb.2.1 hb.2.2 I rx ry
  | lst a =>
    obtain ⟨hb, rfl⟩ := aif_some e
    have hb := few_i hb
    exact mul_lst hb.1 hb.2.1 hb.2.2 I rx ry
  | str a =>
    obtain ⟨hb, rfl⟩ := aif_some e
    have hb := few_i hb
    exact mul_str hb.1 hb.2.1 hb.2.2 I rx ry
  | _ => exact nos e
theorem intOp_i {f : Int → Int → Option Int} {x y z : AV} {v w : Value} (e : intOp f x y = some z) (rx : Rep B G x v) (ry : Rep B G y w) : ∃ a b c t u, f a b = some c ∧ z = .int c ∧ v = .int a t ∧ w = .int b u := by
  obtain ⟨a, ha, e⟩ := bind_some (o := toInt x) e
  obtain ⟨b, hb, e⟩ := bind_some (o := toInt y) e
  obtain ⟨c, hc, rfl⟩ := map_some (o := f a b) e
  have ha := toInt_some ha
  have hb := toInt_some hb
  subst ha; subst hb
  obtain ⟨t, rfl⟩ := rx; obtain ⟨u, rfl⟩ := ry
  exact ⟨a, b, c, t, u, hc, rfl, rfl, rfl⟩
theorem op_bin {o : Op2} {x y z : AV} {v w : Value} (e : abin o x y = some z) (I : Inv B G H s.heap) (rx : Rep B G x v) (ry : Rep B G y w) : Yields B A (binaryOp o.op v w) G H H z s := by
  cases o with
  | add => exact op_add e I rx ry
  | mul => exact op_mul e I rx ry
  | sub =>
    obtain ⟨a, b, c, t, u, hc, rfl, rfl, rfl⟩ := intOp_i e rx ry
    cases hc
    exact yields_int I fun Q E hQ => P.sub_int (hQ _ _)
  | fdiv =>
    obtain ⟨a, b, c, t, u, hc, rfl, rfl, rfl⟩ := intOp_i e rx ry
    obtain ⟨hb, rfl⟩ := aif_some hc
    refine yields_int I fun Q E hQ => PyProof.Rows.floordiv_int (by omega) ?_ (.inl (PyProof.noPylong_small (by omega)))
    rw [fdiv_pos hb.1]; exact hQ _ _
  | mod =>
    obtain ⟨a, b, c, t, u, hc, rfl, rfl, rfl⟩ := intOp_i e rx ry
    obtain ⟨hb, rfl⟩ := aif_some hc
    refine yields_int I fun Q E hQ => PyProof.Rows.mod_int' (by omega) ?_
    rw [fmod_pos hb]; exact hQ _ _
end
end
section
set_option Elab.async false
set_option autoImplicit false
set_option linter.unusedVariables false
set_option tactic.hygienic false
set_option genSizeOf false
set_option genInjectivity false
open PySem PySem.W PyProof.Rows PySem.Calls
open SeqAt (EqAt RcAt RcNeAt)
section
variable {B : Base} {A : Around} {G : St} {H : AH} {s : Shared}
theorem isTup {xs : List AV} {v : Value} (I : Inv B G H s.heap) (r : Rep B G (.tup xs) v) : ∃ a vs, v = .ref a ∧ s.heap.IsTuple a vs ∧ RepL B G xs vs.toList := by
  refine via fun R_ k_ => ?_
  obtain ⟨a, vs, n, e, g, q⟩ := r
  refine k_ ?_
  exact ⟨a, vs, e, ⟨_, I.sub _ _ g, rfl, n, rfl⟩, q⟩
theorem isLst {xs : List AV} {v : Value} (I : Inv B G H s.heap) (r : Rep B G (.lst xs) v) : ∃ a vs, v = .ref a ∧ s.heap.IsList a vs ∧ RepL B G xs vs.toList := by
  refine via fun R_ k_ => ?_
  obtain ⟨a, vs, n, e, g, q⟩ := r
  refine k_ ?_
  exact ⟨a, vs, e, ⟨_, I.sub _ _ g, rfl, n, rfl⟩, q⟩
theorem isRow {xs : List AV} {v : Value} (I : Inv B G H s.heap) (r : Rep B G (.row xs) v) : ∃ a vs, v = .ref a ∧ s.heap.IsList a vs ∧ RepL B G xs vs.toList := by
  refine via fun R_ k_ => ?_
  obtain ⟨a, vs, n, e, ⟨o, g, c, d⟩, q⟩ := r
  refine k_ ?_
  exact ⟨a, vs, e, ⟨o, I.sub _ _ g, c, n, d⟩, q⟩
theorem repL_at {xs : List AV} {vs : List Value} (r : RepL B G xs vs) : ∀ (j : Nat) (v : Value), vs[j]? = some v → ∃ x, xs[j]? = some x ∧ Rep B G x v := by
  induction xs generalizing vs with
  | nil => intro j v e; rw [show vs = [] from r] at e; simp at e
  | cons x xs ih =>
    obtain ⟨u, q, rfl, a, b⟩ := r
    intro j v e
    cases j with
    | zero => simp only [List.getElem?_cons_zero, Option.some.injEq] at e; subst e; exact ⟨x, rfl, a⟩
    | succ j => rw [List.getElem?_cons_succ] at e; exact ih b j v e
theorem repL_get {xs : List AV} {vs : List Value} (r : RepL B G xs vs) : ∀ (j : Nat) (x : AV), xs[j]? = some x → ∃ v, vs[j]? = some v ∧ Rep B G x v := by
  induction xs generalizing vs with
  | nil => intro j x e; simp at e
  | cons y xs ih =>
    obtain ⟨u, q, rfl, a, b⟩ := r
    intro j x e
    cases j with
    | zero => simp only [List.getElem?_cons_zero, Option.some.injEq] at e; subst e; exact ⟨u, rfl, a⟩
    | succ j => rw [List.getElem?_cons_succ] at e ⊢; exact ih b j x e
theorem sames_at {f : AV → AV → Bool} : ∀ {xs ys : List AV}, sames f xs ys = true → xs.length = ys.length ∧ ∀ (j : Nat) x y, xs[j]? = some x → ys[j]? = some y → f x y = true
  | [], [], _ => ⟨rfl, fun j x y e => by simp at e⟩
  | [], _ :: _, h => by cases h
  | _ :: _, [], h => by cases h
  | x :: xs, y :: ys, h => by
    simp only [sames, Bool.and_eq_true] at h
    obtain ⟨l, k⟩ := sames_at h.2
    refine ⟨by simp [l], fun j a b e e' => ?_⟩
    cases j with
    | zero => simp only [List.getElem?_cons_zero, Option.some.injEq] at e e'; subst e; subst e'; exact h.1
    | succ j => rw [List.getElem?_cons_succ] at e e'; exact k j a b e e'
theorem all_true (n : Nat) : ((List.range n).all fun q_ => true) = true := List.all_eq_true.mpr fun q_ q_ => rfl
theorem eqAt_same : ∀ (n : Nat) {A : Around} {x y : AV} {v w : Value} (I : Inv B G H s.heap), same n x y = true → A.units + n < cLine → Rep B G x v → Rep B G y w → EqAt A s v w true := by
  intro n
  induction n with
  | zero => intro A x y v w I h; cases h
  | succ n ih =>
    intro A x y v w I h hu rx ry
    have items : ∀ {a b : List AV} {vs ws : Array Value}, sames (same n) a b = true → RepL B G a vs.toList → RepL B G b ws.toList →
        vs.size = ws.size ∧ ∀ j (h1 : j < vs.size) (h2 : j < ws.size), EqAt A.in1 s vs[j] ws[j] true := by
      intro a b vs ws hs ra rb
      obtain ⟨hl, hk⟩ := sames_at hs
      refine ⟨by rw [size_of ra, size_of rb, hl], fun j h1 h2 => ?_⟩
      refine via fun R_ k_ => ?_
      obtain ⟨x, ex, rx⟩ := repL_at ra j vs[j] (by simp [h1])
      obtain ⟨y, ey, ry⟩ := repL_at rb j ws[j] (by simp [h2])
      refine k_ ?_
      exact ih I (hk j x y ex ey) (by show A.units + 1 + n < cLine; omega) rx ry
    cases x with
    | none =>
      have e := isNone_eq (v := y) h
      subst e
      rw [show v = .none from rx, show w = .none from ry]; exact EqAt.same _
    | bool a =>
      have e := truthA_some (of_decide_eq_true (p := truthA y = some a) h)
      subst e
      rw [show v = .bool a from rx, show w = .bool a from ry]; exact EqAt.same _
    | int a =>
      have e := toInt_some (of_decide_eq_true (p := toInt y = some a) h)
      subst e
      obtain ⟨t, rfl⟩ := rx; obtain ⟨u, rfl⟩ := ry
      have := EqAt.int_int (A := A) (s := s) (a := a) t (b := a) u
      rwa [beq_self_eq_true] at this
    | str a =>
      have e := toStr_some (of_decide_eq_true (p := toStr y = some a) h)
      subst e
      obtain ⟨t, rfl⟩ := rx; obtain ⟨u, rfl⟩ := ry
      have := EqAt.str_str (A := A) (s := s) (toS a) t (toS a) u
      rwa [beq_self_eq_true] at this
    | tup a =>
      obtain ⟨b, hb, h⟩ := (Option.any_eq_true (sames (same n) a) (toTup y)).mp h
      have hb := toTup_some hb
      subst hb
      obtain ⟨p, vs, rfl, ha, ra⟩ := isTup I rx
      obtain ⟨q, ws, rfl, hb, rb⟩ := isTup I ry
      obtain ⟨hl, hk⟩ := items h ra rb
      by_cases hab : p = q
      · subst hab; exact EqAt.same _
      · refine EqAt.of_refs hab ?_
        have := RcAt.tuples (e := fun q_ => true) ha hb (by omega) hk
        rwa [hl, Nat.min_self, beq_self_eq_true, Bool.and_true, all_true] at this
    | lst a =>
      obtain ⟨b, hb, h⟩ := (Option.any_eq_true (sames (same n) a) (toLst y)).mp h
      have hb := toLst_some hb
      subst hb
      obtain ⟨p, vs, rfl, ha, ra⟩ := isLst I rx
      obtain ⟨q, ws, rfl, hb, rb⟩ := isLst I ry
      obtain ⟨hl, hk⟩ := items h ra rb
      by_cases hab : p = q
      · subst hab; exact EqAt.same _
      · refine EqAt.of_refs hab ?_
        have := RcAt.lists (e := fun q_ => true) ha hb hl (by omega) hk
        rwa [all_true] at this
    | _ => exact bad h
theorem rc_tup {a b : List AV} {v w : Value} (I : Inv B G H s.heap) (h : same 5 (.tup a) (.tup b) = true) (hu : A.units + 6 < cLine) (rx : Rep B G (.tup a) v) (ry : Rep B G (.tup b) w) : RcAt A s v w true ∧ RcNeAt A s v w false := by
  obtain ⟨x, vs, rfl, hx, ra⟩ := isTup I rx
  obtain ⟨y, ws, rfl, hy, rb⟩ := isTup I ry
  have hs : sames (same 4) a b = true := h
  obtain ⟨hl, hk⟩ := sames_at hs
  have hz : vs.size = ws.size := by rw [size_of ra, size_of rb, hl]
  have items : ∀ j (h1 : j < vs.size) (h2 : j < ws.size), EqAt A.in1 s vs[j] ws[j] true := fun j h1 h2 => by
    refine via fun R_ k_ => ?_
    obtain ⟨x, ex, rx⟩ := repL_at ra j vs[j] (by simp [h1])
    obtain ⟨y, ey, ry⟩ := repL_at rb j ws[j] (by simp [h2])
    refine k_ ?_
    exact eqAt_same 4 I (hk j x y ex ey) (by show A.units + 1 + 4 < cLine; omega) rx ry
  have p := RcAt.tuples (e := fun q_ => true) hx hy (by omega) items
  have q := RcNeAt.tuples (e := fun q_ => true) hx hy (by omega) items
  simp only [hz, Nat.min_self, BEq.rfl, Bool.and_true, all_true] at p q
  exact ⟨p, q⟩
theorem intsAre : ∀ {xs : List AV} {l : List Int} {vs : List Value}, ints? xs = some l → RepL B G xs vs → IntsAre vs l
  | [], l, vs, e, r => by cases e; rw [show vs = [] from r]; exact .nil
  | x :: xs, l, vs, e, r => by
    obtain ⟨v, q, rfl, a, b⟩ := r
    cases x with
    | int i =>
      simp only [ints?, Option.map_eq_some_iff] at e
      obtain ⟨k, e, rfl⟩ := e
      obtain ⟨t, rfl⟩ := a
      exact .cons i t (intsAre e b)
    | _ => cases e
theorem strsAre : ∀ {xs : List AV} {l : List (List Nat)} {vs : List Value}, strs? xs = some l → RepL B G xs vs → StrsAre vs (l.map toS)
  | [], l, vs, e, r => by cases e; rw [show vs = [] from r]; exact .nil
  | x :: xs, l, vs, e, r => by
    obtain ⟨v, q, rfl, a, b⟩ := r
    cases x with
    | str i =>
      simp only [strs?, Option.map_eq_some_iff] at e
      obtain ⟨k, e, rfl⟩ := e
      obtain ⟨t, rfl⟩ := a
      exact .cons (toS i) t (strsAre e b)
    | _ => cases e
theorem toS_inj {a b : List Nat} : toS a = toS b ↔ a = b := by
  constructor
  · intro h
    have : (toS a).cps.toList = (toS b).cps.toList := by rw [h]
    simpa [toS] using this
  · intro h; rw [h]
theorem toS_beq (a b : List Nat) : (toS a == toS b) = decide (a = b) := by
  rw [Bool.eq_iff_iff]
  simp [toS_inj]
theorem repD_map : ∀ {kvs : List (Int × AV)} {es : List DictEntry}, RepD B G kvs es → (∀ e ∈ es, ∃ k t, e.key = .int k t ∧ e.hash = hashInt k) ∧
    ∀ k : Int, match kvs.find? (fun p => decide (k = p.1)), (es.find? fun e => Value.isInt k e.key) with
      | some p, some e => Rep B G p.2 e.val
      | none, none => True
      | _, _ => False
  | [], es, r => by rw [show es = [] from r]; exact ⟨fun q_ h => (List.not_mem_nil h).elim, fun k => trivial⟩
  | p :: kvs, es, r => by
    obtain ⟨e, t, u, rfl, ek, eh, rv, rr⟩ := r
    obtain ⟨h1, h2⟩ := repD_map rr
    refine ⟨fun x hx => ?_, fun k => ?_⟩
    · rcases List.mem_cons.mp hx with rfl | hx
      · exact ⟨_, t, ek, eh⟩
      · exact h1 x hx
    · rw [List.find?_cons, List.find?_cons, ek]
      by_cases hk : k = p.1
      · have a : decide (k = p.1) = true := decide_eq_true hk
        have b : Value.isInt k (.int p.1 t) = true := by simp [Value.isInt, hk]
        simp only [a, b]
        exact rv
      · have a : decide (k = p.1) = false := decide_eq_false hk
        have b : Value.isInt k (.int p.1 t) = false := by
          simp only [Value.isInt, beq_eq_false_iff_ne]; exact fun q => hk q.symm
        simp only [a, b]
        exact h2 k
end
end
section
set_option Elab.async false
set_option autoImplicit false
set_option linter.unusedVariables false
set_option tactic.hygienic false
set_option genSizeOf false
set_option genInjectivity false
open PySem PySem.W PyProof.Rows PySem.Calls
open SeqAt (EqAt RcAt RcNeAt)
theorem opC_eq {o : OpC} {p : CmpOp} (h : opC o p = true) : p = o.op := of_decide_eq_true h
section
variable {B : Base} {A : Around} {G : St} {H : AH} {s : Shared}
theorem yields_bool {t : Sem Value} {b : Bool} (I : Inv B G H s.heap)
    (h : ∀ (Q : Value → Shared → Prop) (E : Value → Shared → Prop), (∀ tk, Q (.bool b) { s with toks := tk }) → wpAny (model B.prog B.w) A t Q E s) : Yields B A t G H H (.bool b) s := yields_val I rfl h
theorem yields_rc {v w : Value} {b : Bool} (I : Inv B G H s.heap) (h : RcAt A s v w b) : Yields B A (compareOp .Eq v w) G H H (.bool b) s :=
  yields_bool I fun Q E hQ => show wpAny _ A (richCompare .Eq v w) Q E s from h B.prog B.w E Q (hQ s.toks)
theorem yields_rn {v w : Value} {b : Bool} (I : Inv B G H s.heap) (h : RcNeAt A s v w b) : Yields B A (compareOp .NotEq v w) G H H (.bool b) s :=
  yields_bool I fun Q E hQ => show wpAny _ A (richCompare .NotEq v w) Q E s from h B.prog B.w E Q (hQ s.toks)
theorem int_beq (a b : Int) : (a == b) = decide (a = b) := by rw [Bool.eq_iff_iff]; simp
theorem int_bne (a b : Int) : (a != b) = !decide (a = b) := by rw [← int_beq]; rfl
theorem op_eq {x y : AV} {v w : Value} {b : Bool} (e : aeq x y = some b) (hu : A.units + 6 < cLine) (I : Inv B G H s.heap) (rx : Rep B G x v) (ry : Rep B G y w) :
    Yields B A (compareOp .Eq v w) G H H (.bool b) s ∧ Yields B A (compareOp .NotEq v w) G H H (.bool (!b)) s := by
  cases x with
  | bool a =>
    obtain ⟨c, hc, rfl⟩ := map_some (o := truthA y) e
    have hc := truthA_some hc
    subst hc
    rw [show v = _ from rx, show w = _ from ry]
    exact ⟨yields_bool I fun Q E hQ => PyProof.Rows.eq_bool (hQ s.toks), yields_bool I fun Q E hQ => PyProof.Rows.ne_bool (hQ s.toks)⟩
  | int a =>
    obtain ⟨c, hc, rfl⟩ := map_some (o := toInt y) e
    have hc := toInt_some hc
    subst hc
    obtain ⟨t, rfl⟩ := rx; obtain ⟨u, rfl⟩ := ry
    exact ⟨yields_bool I fun Q E hQ => P.eq_int (by rw [int_beq]; exact hQ s.toks), yields_bool I fun Q E hQ => P.ne_int (by rw [int_bne]; exact hQ s.toks)⟩
  | str a =>
    obtain ⟨c, hc, rfl⟩ := map_some (o := toStr y) e
    have hc := toStr_some hc
    subst hc
    obtain ⟨t, rfl⟩ := rx; obtain ⟨u, rfl⟩ := ry
    exact ⟨yields_bool I fun Q E hQ => PyProof.Rows.eq_str (by rw [toS_beq]; exact hQ s.toks), yields_bool I fun Q E hQ => PyProof.Rows.ne_str (by rw [bne, toS_beq]; exact hQ s.toks)⟩
  | none =>
    obtain ⟨h, rfl⟩ := aif_some (b := y.isNone = true) e
    have h := isNone_eq h
    subst h
    rw [show v = _ from rx, show w = _ from ry]
    exact ⟨yields_rc I SeqAt.RcAt.none_none, yields_rn I SeqAt.RcNeAt.none_none⟩
  | tup a =>
    cases y with
    | str c =>
      cases (show some false = some b from e)
      obtain ⟨u, rfl⟩ := ry
      obtain ⟨a, vs, rfl, ha, ra⟩ := isTup I rx
      exact ⟨yields_rc I (SeqAt.RcAt.tuple_str _ u ha (by omega)), yields_rn I (SeqAt.RcNeAt.tuple_str _ u ha (by omega))⟩
    | tup c =>
      obtain ⟨h, rfl⟩ := aif_some (b := same 5 (.tup a) (.tup c) = true) e
      have := rc_tup (A := A) I h (by omega) rx ry
      exact ⟨yields_rc I this.1, yields_rn I this.2⟩
    | _ => exact nos e
  | _ => exact nos e
theorem any_beq (l : List Int) (i : Int) : (l.any fun j => j == i) = l.any fun j => decide (i = j) := by
  congr 1; funext j; rw [int_beq]; exact decide_eq_decide.mpr eq_comm
theorem any_beqS (l : List (List Nat)) (s : List Nat) : ((l.map toS).any fun j => j == toS s) = l.any fun t => decide (s = t) := by
  rw [List.any_map]; congr 1; funext t; show (toS t == toS s) = _; rw [toS_beq]; exact decide_eq_decide.mpr eq_comm
theorem intMap {kvs : List (Int × AV)} {v : Value} (I : Inv B G H s.heap) (r : Rep B G (.dct kvs) v) : ∃ a f, v = .ref a ∧ s.heap.IntMap a f ∧
    ∀ k, match kvs.find? (fun p => decide (k = p.1)), f k with
      | some p, some w => Rep B G p.2 w
      | none, none => True
      | _, _ => False := by
  refine via fun R_ k_ => ?_
  obtain ⟨a, es, n, e, g, _, q⟩ := r
  obtain ⟨h1, h2⟩ := repD_map q
  refine k_ ?_
  refine ⟨a, fun k => findBy Value.isInt es k, e, ⟨_, es, n, I.sub _ _ g, rfl, rfl, fun x hx => h1 x (by simpa using hx), fun q_ => rfl⟩, fun k => ?_⟩
  have := h2 k
  show match kvs.find? (fun p => decide (k = p.1)), Option.map (fun x => x.val) (Array.find? (fun e => Value.isInt k e.key) es) with
      | some p, some w => Rep B G p.2 w
      | none, none => True
      | _, _ => False
  rw [← Array.find?_toList]
  revert this
  cases kvs.find? (fun p => decide (k = p.1)) <;> cases es.toList.find? (fun e => Value.isInt k e.key) <;> exact fun x => x
theorem in_int {i : Int} {y : AV} {v w : Value} {b : Bool} (e : inInt i y = some b) (I : Inv B G H s.heap) (rx : Rep B G (.int i) v) (ry : Rep B G y w) : Yields B A (compareOp .In v w) G H H (.bool b) s := by
  obtain ⟨t, rfl⟩ := rx
  cases y with
  | lst xs =>
    obtain ⟨l, e', rfl⟩ := map_some (o := ints? xs) e
    obtain ⟨a, vs, rfl, ha, ra⟩ := isLst I ry
    exact yields_bool I fun Q E hQ => PyProof.Rows.in_list_ints (vs := vs.toList) ha (intsAre e' ra) (by rw [any_beq]; exact hQ s.toks)
  | tup xs =>
    obtain ⟨l, e', rfl⟩ := map_some (o := ints? xs) e
    obtain ⟨a, vs, rfl, ha, ra⟩ := isTup I ry
    exact yields_bool I fun Q E hQ => PyProof.Rows.in_tuple_ints ha (intsAre e' ra) (by rw [any_beq]; exact hQ s.toks)
  | dct kvs =>
    cases (show some (kvs.any fun p => decide (i = p.1)) = some b from e)
    obtain ⟨a, f, rfl, hm, hf⟩ := intMap I ry
    refine yields_bool I fun Q E hQ => wpAny_in_intMap hm ?_
    have q : (f i).isSome = kvs.any fun p => decide (i = p.1) := by
      have := hf i
      have q : (kvs.find? fun p => decide (i = p.1)).isSome = kvs.any fun p => decide (i = p.1) := by rw [Bool.eq_iff_iff, List.find?_isSome, List.any_eq_true]
      rw [← q]
      revert this
      cases kvs.find? (fun p => decide (i = p.1)) <;> cases f i <;> simp
    rw [q]; exact hQ _
  | _ => exact nos e
theorem in_str_ {t : List Nat} {y : AV} {v w : Value} {b : Bool} (e : inStr t y = some b) (I : Inv B G H s.heap) (rx : Rep B G (.str t) v) (ry : Rep B G y w) : Yields B A (compareOp .In v w) G H H (.bool b) s := by
  obtain ⟨u, rfl⟩ := rx
  cases y with
  | tup xs =>
    obtain ⟨l, e', rfl⟩ := map_some (o := strs? xs) e
    obtain ⟨a, vs, rfl, ha, ra⟩ := isTup I ry
    exact yields_bool I fun Q E hQ => PyProof.Rows.in_tuple_strs ha (strsAre e' ra) (by rw [any_beqS]; exact hQ s.toks)
  | str t' =>
    match t, e with
    | [c], e =>
    cases (show some (t'.any fun d => decide (c = d)) = some b from e)
    obtain ⟨u', rfl⟩ := ry
    refine yields_bool I fun Q E hQ => PyProof.Rows.in_str ?_
    have q : (!(Builtin.Str.occurrences (toS t') (toS [c]) 0 (toS t').length 1).isEmpty) = t'.any fun d => decide (c = d) := by
      show (!(Builtin.Str.occurrences (toS t') ⟨#[c]⟩ 0 (toS t').length 1).isEmpty) = _
      rw [PySem.StrLaws.found_one, Bool.eq_iff_iff, decide_eq_true_eq, List.any_eq_true]
      show c ∈ t'.toArray.toList ↔ _
      constructor
      · intro h; exact ⟨c, by simpa using h, decide_eq_true rfl⟩
      · rintro ⟨d, h, k⟩; have := of_decide_eq_true k; subst this; simpa using h
    rw [q]; exact hQ _
    | [], e => exact nos e
    | _ :: _ :: _, e => exact nos e
  | _ => exact nos e
theorem op_in {x y : AV} {v w : Value} {b : Bool} (e : ain x y = some b) (I : Inv B G H s.heap) (rx : Rep B G x v) (ry : Rep B G y w) : Yields B A (compareOp .In v w) G H H (.bool b) s := by
  cases x with
  | int i => exact in_int e I rx ry
  | str t => exact in_str_ e I rx ry
  | _ => exact nos e
theorem op_cmp {o : OpC} {x y : AV} {v w : Value} {b : Bool} (e : acmp o x y = some b) (hu : A.units + 6 < cLine) (I : Inv B G H s.heap) (rx : Rep B G x v) (ry : Rep B G y w) :
    Yields B A (compareOp o.op v w) G H H (.bool b) s := by
  have nn : ∀ {x : AV} {v : Value}, Rep B G x v → (v == .none) = x.isNone := by
    intro x v r
    cases x with
    | none => rw [show v = _ from r]; rfl
    | bool b => rw [show v = _ from r]; rfl
    | int i => obtain ⟨t, rfl⟩ := r; rfl
    | str i => obtain ⟨t, rfl⟩ := r; rfl
    | tup i => obtain ⟨a, _, _, rfl, _⟩ := r; rfl
    | lst i => obtain ⟨a, _, _, rfl, _⟩ := r; rfl
    | row i => obtain ⟨a, _, _, rfl, _⟩ := r; rfl
    | dct i => obtain ⟨a, _, _, rfl, _⟩ := r; rfl
    | obj i => obtain ⟨a, _, rfl⟩ := r; rfl
    | fn i => rw [show v = _ from r]; rfl
    | cls i => rw [show v = _ from r]; rfl
    | bi i => rw [show v = _ from r]; cases i <;> rfl
  have nums : ∀ {f : Int → Int → Bool}, cmpI f x y = some b → ∃ a c t u, f a c = b ∧ v = .int a t ∧ w = .int c u := fun {f} e => by
    refine via fun R_ k_ => ?_
    obtain ⟨a, ha, e⟩ := bind_some (o := toInt x) e
    obtain ⟨c, hc, e2⟩ := map_some (o := toInt y) e
    refine k_ ?_
    have ha := toInt_some ha
    have hc := toInt_some hc
    subst ha; subst hc
    obtain ⟨t, rfl⟩ := rx; obtain ⟨u, rfl⟩ := ry
    exact ⟨a, c, t, u, e2, rfl, rfl⟩
  cases o with
  | eq => exact (op_eq e hu I rx ry).1
  | ne =>
    obtain ⟨l, e', rfl⟩ := map_some (o := aeq x y) e
    exact (op_eq e' hu I rx ry).2
  | lt =>
    obtain ⟨a, c, t, u, rfl, rfl, rfl⟩ := nums e
    exact yields_bool I fun Q E hQ => P.lt_int (hQ s.toks)
  | le =>
    obtain ⟨a, c, t, u, rfl, rfl, rfl⟩ := nums e
    exact yields_bool I fun Q E hQ => P.le_int (hQ s.toks)
  | gt =>
    obtain ⟨a, c, t, u, rfl, rfl, rfl⟩ := nums e
    exact yields_bool I fun Q E hQ => P.gt_int (hQ s.toks)
  | ge =>
    obtain ⟨a, c, t, u, rfl, rfl, rfl⟩ := nums e
    exact yields_bool I fun Q E hQ => P.ge_int (hQ s.toks)
  | is =>
    obtain ⟨h, rfl⟩ := aif_some (b := y.isNone = true) e
    have h := isNone_eq h
    subst h
    rw [show w = _ from ry]
    exact yields_bool I fun Q E hQ => PyProof.Rows.is_none_gen (by rw [nn rx]; exact hQ s.toks)
  | isNot =>
    obtain ⟨h, rfl⟩ := aif_some (b := y.isNone = true) e
    have h := isNone_eq h
    subst h
    rw [show w = _ from ry]
    exact yields_bool I fun Q E hQ => PyProof.Rows.isnot_none_gen (by rw [nn rx]; exact hQ s.toks)
  | isIn => exact op_in e I rx ry
end
end
section
set_option Elab.async false
set_option autoImplicit false
set_option linter.unusedVariables false
set_option tactic.hygienic false
set_option genSizeOf false
set_option genInjectivity false
open PySem PySem.W PyProof.Rows PySem.Calls
section
variable {B : Base} {A : Around} {T : Tabs} {sc : Scope} {ns : List (List Nat)} {env : Env} {F : AF}
noncomputable def tst (m : AM AV) : AM Bool := abind m fun v => aopt (truthA v)
noncomputable abbrev EvT (B : Base) (A : Around) (T : Tabs) (sc : Scope) (ns : List (List Nat)) (env : Env) (F : AF) (e : Expr) (m : AM AV) : Prop :=
  Ev B A (FrOK B T sc ns env F) (isTrue e env (eval e env)) (fun _ (x : Bool) (b : Bool) => b = x) (tst m)
inductive ToR {α τ : Type} (m : AM AV) (c : τ → AV) (f : τ → AM α) (H : AH) (r : α × AH) : Prop
  | mk (b : τ) (H1 : AH) (e1 : m H = some (c b, H1)) (e2 : f b H1 = some r)
inductive OptR {α β : Type} (o : Option β) (f : β → AM α) (H : AH) (r : α × AH) : Prop
  | mk (x : β) (e : o = some x) (e2 : f x H = some r)
theorem abind_truth {α : Type} {m : AM AV} {f : Bool → AM α} {H : AH} {r : α × AH} (e : abind m (fun v => abind (aopt (truthA v)) f) H = some r) : ToR m AV.bool f H r := by
  obtain ⟨v, H1, e1, e2⟩ := abind_some e
  obtain ⟨b, H2, e3, e4⟩ := abind_some e2
  obtain ⟨e5, rfl⟩ := aopt_some e3
  exact ⟨b, H2, (truthA_some e5) ▸ e1, e4⟩
theorem abind_int {α : Type} {m : AM AV} {f : Int → AM α} {H : AH} {r : α × AH} (e : abind m (fun v => abind (aopt (toInt v)) f) H = some r) : ToR m AV.int f H r := by
  obtain ⟨v, H1, e1, e2⟩ := abind_some e
  obtain ⟨b, H2, e3, e4⟩ := abind_some e2
  obtain ⟨e5, rfl⟩ := aopt_some e3
  exact ⟨b, H2, (toInt_some e5) ▸ e1, e4⟩
theorem abind_str {α : Type} {m : AM AV} {f : List Nat → AM α} {H : AH} {r : α × AH} (e : abind m (fun v => abind (aopt (toStr v)) f) H = some r) : ToR m AV.str f H r := by
  obtain ⟨v, H1, e1, e2⟩ := abind_some e
  obtain ⟨b, H2, e3, e4⟩ := abind_some e2
  obtain ⟨e5, rfl⟩ := aopt_some e3
  exact ⟨b, H2, (toStr_some e5) ▸ e1, e4⟩
theorem abind_lst {α : Type} {m : AM AV} {f : List AV → AM α} {H : AH} {r : α × AH} (e : abind m (fun v => abind (aopt (toLst v)) f) H = some r) : ToR m AV.lst f H r := by
  obtain ⟨v, H1, e1, e2⟩ := abind_some e
  obtain ⟨b, H2, e3, e4⟩ := abind_some e2
  obtain ⟨e5, rfl⟩ := aopt_some e3
  exact ⟨b, H2, (toLst_some e5) ▸ e1, e4⟩
theorem abind_aif {α : Type} {b : Prop} [Decidable b] {f : Unit → AM α} {H : AH} {r : α × AH} (e : abind (aopt (aif b ())) f H = some r) : b ∧ f () H = some r := by
  obtain ⟨v, H1, e1, e2⟩ := abind_some e
  obtain ⟨e3, rfl⟩ := aopt_some e1
  exact ⟨(aif_some e3).1, e2⟩
theorem abind_opt {α β : Type} {o : Option β} {f : β → AM α} {H : AH} {r : α × AH} (e : abind (aopt o) f H = some r) : OptR o f H r := by
  obtain ⟨v, H1, e1, e2⟩ := abind_some e
  obtain ⟨e3, rfl⟩ := aopt_some e1
  exact ⟨v, e3, e2⟩
theorem abind_read {α : Type} {g : AH → Option AV} {f : AV → AM α} {H : AH} {r : α × AH} (e : abind (aread g) f H = some r) : OptR (g H) f H r := by
  refine via fun R_ k_ => ?_
  obtain ⟨v, H1, e1, e2⟩ := abind_some e
  obtain ⟨x, e3, e4⟩ := map_some (o := g H) e1
  refine k_ ?_
  cases e4
  exact ⟨v, e3, e2⟩
theorem aread_some {g : AH → Option AV} {H H' : AH} {v : AV} (e : aread g H = some (v, H')) : g H = some v ∧ H' = H := by
  obtain ⟨x, e3, e4⟩ := map_some (o := g H) e
  cases e4
  exact ⟨e3, rfl⟩
theorem tst_some {m : AM AV} {H H' : AH} {b : Bool} (e : tst m H = some (b, H')) : m H = some (.bool b, H') := by
  obtain ⟨v, H1, e1, e2⟩ := abind_some e
  obtain ⟨e3, rfl⟩ := aopt_some e2
  rw [truthA_some e3] at e1; exact e1
theorem tst_of {m : AM AV} {H H' : AH} {b : Bool} (e : m H = some (.bool b, H')) : tst m H = some (b, H') := by
  show abind m _ H = _
  unfold abind
  rw [e]; rfl
theorem Yields.use {G0 : St} {h0 : Heap} {G : St} {H H' : AH} {s : Shared} {z : AV} {t : Sem Value} {Q E : Value → Shared → Prop} (y : Yields B A t G H H' z s) (P0 : FrOK B T sc ns env F G s.heap)
    (st : Step B Pure G0 h0 G s.heap) (hQ : ∀ v G' h' tk', Step B Pure G0 h0 G' h' → Inv B G' H' h' → FrOK B T sc ns env F G' h' → Rep B G' z v → Q v { s with heap := h', toks := tk' }) :
    wpAny (model B.prog B.w) A t Q E s :=
  y Q E fun v G' h' tk' s' I' r => hQ v G' h' tk' (st.trans s') I' (P0.step s') r
theorem evT_value {e : Expr} {m : AM AV} (h : EvE B A T sc ns env F e m) (he : isTrue e env (eval e env) = (do let v ← eval e env; standAt e.pos; holding [v] (truthy v))) : EvT B A T sc ns env F e m :=
  fun s G H x H' hP I eq Q E hQ => by
    refine wpAny_isTrue_value (h s G H _ H' hP I (tst_some eq) _ _ fun v G1 h1 t1 s1 I1 P1 r1 => ?_) he
    rw [show v = .bool x from r1]
    exact wpAny_truthy_bool (hQ x G1 h1 t1 s1 I1 P1 rfl)
theorem ev_bin {o : Op2} {l r : Expr} {p : Pos} {ma mb : AM AV} (ha : EvE B A T sc ns env F l ma) (hb : EvE B A T sc ns env F r mb) :
    EvE B A T sc ns env F (.BinOp l (o.op) r p) (abind ma fun x => abind mb fun y => aopt (abin o x y)) := fun s G H z H' hP I eq Q E hQ => by
  obtain ⟨x, H1, e1, eq⟩ := abind_some eq
  obtain ⟨y, H2, e2, eq⟩ := abind_some eq
  obtain ⟨e3, rfl⟩ := aopt_some eq
  refine wpAny_BinOp (ha s G H x H1 hP I e1 _ _ fun v G1 h1 t1 s1 I1 P1 r1 => ?_)
  refine hb _ G1 H1 y _ P1 I1 e2 _ _ fun u G2 h2 t2 s2 I2 P2 r2 => ?_
  exact (op_bin e3 I2 (s2.rep r1) r2).use P2 (s1.trans s2) fun v G' h' tk' => hQ v G' h' tk'
theorem ev_cmp {o : OpC} {l r : Expr} {p : Pos} {ma mb : AM AV} (hu : A.units + 6 < cLine) (ha : EvE B A T sc ns env F l ma) (hb : EvE B A T sc ns env F r mb) (hm : behindInMarks (o.op) r = false) :
    EvE B A T sc ns env F (.Compare l [o.op] [r] p) (abind ma fun x => abind mb fun y => aopt ((acmp o x y).map .bool)) ∧
    EvT B A T sc ns env F (.Compare l [o.op] [r] p) (abind ma fun x => abind mb fun y => aopt ((acmp o x y).map .bool)) := by
  refine ⟨fun s G H z H' hP I eq Q E hQ => ?_, fun s G H z H' hP I eq Q E hQ => ?_⟩
  · obtain ⟨x, H1, e1, eq⟩ := abind_some eq
    obtain ⟨y, H2, e2, eq⟩ := abind_some eq
    obtain ⟨e3, rfl⟩ := aopt_some eq
    obtain ⟨b, e3', rfl⟩ := Option.map_eq_some_iff.mp e3
    refine wpAny_Compare1 (ha s G H x H1 hP I e1 _ _ fun v G1 h1 t1 s1 I1 P1 r1 => ?_) hm
    refine hb _ G1 H1 y _ P1 I1 e2 _ _ fun u G2 h2 t2 s2 I2 P2 r2 => ?_
    exact (op_cmp e3' hu I2 (s2.rep r1) r2).use P2 (s1.trans s2) fun v G' h' tk' => hQ v G' h' tk'
  · have eq := tst_some eq
    obtain ⟨x, H1, e1, eq⟩ := abind_some eq
    obtain ⟨y, H2, e2, eq⟩ := abind_some eq
    obtain ⟨e3, rfl⟩ := aopt_some eq
    obtain ⟨b, e3', e4⟩ := Option.map_eq_some_iff.mp e3
    cases e4
    refine wpAny_isTrue_Compare1 (ha s G H x H1 hP I e1 _ _ fun v G1 h1 t1 s1 I1 P1 r1 => ?_) hm
    refine hb _ G1 H1 y _ P1 I1 e2 _ _ fun u G2 h2 t2 s2 I2 P2 r2 => ?_
    refine (op_cmp e3' hu I2 (s2.rep r1) r2).use P2 (s1.trans s2) fun v G' h' tk' s3 I3 P3 r3 => ?_
    rw [show v = _ from r3]
    exact wpAny_truthy_bool (hQ _ G' h' tk' s3 I3 P3 rfl)
theorem ev_cmp2 {o o' : OpC} {l r r' : Expr} {p : Pos} {ma mb mc : AM AV} (hu : A.units + 6 < cLine) (ha : EvE B A T sc ns env F l ma) (hb : EvE B A T sc ns env F r mb) (hc : EvE B A T sc ns env F r' mc)
    (hm : behindInMarks (o'.op) r' = false) {m : AM AV}
    (hm' : m = abind ma fun x => abind mb fun y => abind (aopt (acmp o x y)) fun t => if t then abind mc fun z => aopt ((acmp o' y z).map .bool) else apure (.bool false)) :
    EvE B A T sc ns env F (.Compare l [o.op, o'.op] [r, r'] p) m ∧ EvT B A T sc ns env F (.Compare l [o.op, o'.op] [r, r'] p) m := by
  subst hm'
  refine ⟨fun s G H z H' hP I eq Q E hQ => ?_, fun s G H z H' hP I eq Q E hQ => ?_⟩
  · obtain ⟨x, H1, e1, eq⟩ := abind_some eq
    obtain ⟨y, H2, e2, eq⟩ := abind_some eq
    obtain ⟨t, H3, e3, eq⟩ := abind_some eq
    obtain ⟨e3', rfl⟩ := aopt_some e3
    refine Compare_chain (rs := []) (ops := []) (ha s G H x H1 hP I e1 _ _ fun v G1 h1 t1 s1 I1 P1 r1 => chain_link ?_) hm
    refine hb _ G1 H1 y _ P1 I1 e2 _ _ fun u G2 h2 t2 s2 I2 P2 r2 => ?_
    refine op_cmp e3' hu I2 (s2.rep r1) r2 _ _ fun v3 G3 h3 t3 s3 I3 r3 => ?_
    rw [show v3 = _ from r3]
    refine wpAny_truthy_bool ?_
    have P3 := P2.step s3
    cases t with
    | false =>
      obtain ⟨rfl, rfl⟩ := apure_some eq
      exact hQ _ G3 h3 t3 (s1.trans (s2.trans s3)) I3 P3 rfl
    | true =>
      rw [if_pos rfl] at eq
      obtain ⟨w, H4, e4, eq⟩ := abind_some eq
      obtain ⟨e5, rfl⟩ := aopt_some eq
      obtain ⟨b, e5', rfl⟩ := Option.map_eq_some_iff.mp e5
      refine chain_last (hc _ G3 _ w _ P3 I3 e4 _ _ fun v4 G4 h4 t4 s4 I4 P4 r4 => ?_)
      exact (op_cmp e5' hu I4 (s4.rep (s3.rep r2)) r4).use P4 (s1.trans (s2.trans (s3.trans s4))) fun v G' h' tk' => hQ v G' h' tk'
  · have eq := tst_some eq
    obtain ⟨x, H1, e1, eq⟩ := abind_some eq
    obtain ⟨y, H2, e2, eq⟩ := abind_some eq
    obtain ⟨t, H3, e3, eq⟩ := abind_some eq
    obtain ⟨e3', rfl⟩ := aopt_some e3
    refine isTrue_chain (rs := []) (ops := []) (ha s G H x H1 hP I e1 _ _ fun v G1 h1 t1 s1 I1 P1 r1 => test_link ?_) hm
    refine hb _ G1 H1 y _ P1 I1 e2 _ _ fun u G2 h2 t2 s2 I2 P2 r2 => ?_
    refine op_cmp e3' hu I2 (s2.rep r1) r2 _ _ fun v3 G3 h3 t3 s3 I3 r3 => ?_
    rw [show v3 = _ from r3]
    refine wpAny_truthy_bool ?_
    have P3 := P2.step s3
    cases t with
    | false =>
      obtain ⟨e6, rfl⟩ := apure_some eq
      cases e6
      exact hQ _ G3 h3 t3 (s1.trans (s2.trans s3)) I3 P3 rfl
    | true =>
      rw [if_pos rfl] at eq
      obtain ⟨w, H4, e4, eq⟩ := abind_some eq
      obtain ⟨e5, rfl⟩ := aopt_some eq
      obtain ⟨b, e5', e6⟩ := Option.map_eq_some_iff.mp e5
      cases e6
      refine test_last (hc _ G3 _ w _ P3 I3 e4 _ _ fun v4 G4 h4 t4 s4 I4 P4 r4 => ?_)
      refine (op_cmp e5' hu I4 (s4.rep (s3.rep r2)) r4).use P4 (s1.trans (s2.trans (s3.trans s4))) fun v G' h' tk' s5 I5 P5 r5 => ?_
      rw [show v = _ from r5]
      exact wpAny_truthy_bool (hQ _ G' h' tk' s5 I5 P5 rfl)
theorem ev_neg {e : Expr} {p : Pos} {ma : AM AV} (ha : EvE B A T sc ns env F e ma) : EvE B A T sc ns env F (.UnaryOp .USub e p) (abind ma fun v => abind (aopt (toInt v)) fun i => apure (.int (-i))) := fun s G H z H' hP I eq Q E hQ => by
  obtain ⟨i, H1, e1, eq⟩ := abind_int eq
  obtain ⟨rfl, rfl⟩ := apure_some eq
  refine wpAny_UnaryOp (ha s G H _ _ hP I e1 _ _ fun v G1 h1 t1 s1 I1 P1 r1 => ?_)
  obtain ⟨t, rfl⟩ := r1
  exact P.neg_int (hQ _ G1 h1 _ s1 I1 P1 ⟨_, rfl⟩)
theorem ev_not {e : Expr} {p : Pos} {ma : AM AV} (ha : EvE B A T sc ns env F e ma) (hb : EvT B A T sc ns env F e ma) {m : AM AV} (hm : m = abind ma fun v => abind (aopt (truthA v)) fun i => apure (.bool (!i))) : EvE B A T sc ns env F (.UnaryOp .Not e p) m ∧ EvT B A T sc ns env F (.UnaryOp .Not e p) m := by
  subst hm
  refine ⟨fun s G H z H' hP I eq Q E hQ => ?_, fun s G H z H' hP I eq Q E hQ => ?_⟩
  · obtain ⟨i, H1, e1, eq⟩ := abind_truth eq
    obtain ⟨rfl, rfl⟩ := apure_some eq
    refine wpAny_UnaryOp (ha s G H _ _ hP I e1 _ _ fun v G1 h1 t1 s1 I1 P1 r1 => ?_)
    rw [show v = _ from r1]
    exact not_value (wpAny_truthy_bool (hQ _ G1 h1 _ s1 I1 P1 rfl))
  · have eq := tst_some eq
    obtain ⟨i, H1, e1, eq⟩ := abind_truth eq
    obtain ⟨e2, rfl⟩ := apure_some eq
    cases e2
    refine wpAny_isTrue_Not (hb s G H i _ hP I (tst_of e1) _ _ fun v G1 h1 t1 s1 I1 P1 r1 => ?_)
    subst r1
    exact hQ _ G1 h1 _ s1 I1 P1 rfl
theorem ev_ite {c x y : Expr} {p : Pos} {mc mx my : AM AV} (hc : EvT B A T sc ns env F c mc) (hx : EvE B A T sc ns env F x mx ∧ EvT B A T sc ns env F x mx) (hy : EvE B A T sc ns env F y my ∧ EvT B A T sc ns env F y my)
    {m : AM AV} (hm : m = abind mc fun v => abind (aopt (truthA v)) fun t => if t then mx else my) : EvE B A T sc ns env F (.IfExp c x y p) m ∧ EvT B A T sc ns env F (.IfExp c x y p) m := by
  subst hm
  refine ⟨fun s G H z H' hP I eq Q E hQ => ?_, fun s G H z H' hP I eq Q E hQ => ?_⟩
  · obtain ⟨b, H1, e1, eq⟩ := abind_truth eq
    refine wpAny_IfExp (hc s G H b H1 hP I (tst_of e1) _ _ fun v G1 h1 t1 s1 I1 P1 r1 => ?_)
    subst r1
    cases v with
    | true => exact hx.1 _ G1 H1 z H' P1 I1 eq _ _ fun w G2 h2 t2 s2 I2 P2 r2 => hQ w G2 h2 t2 (s1.trans s2) I2 P2 r2
    | false => exact hy.1 _ G1 H1 z H' P1 I1 eq _ _ fun w G2 h2 t2 s2 I2 P2 r2 => hQ w G2 h2 t2 (s1.trans s2) I2 P2 r2
  · have eq := tst_some eq
    obtain ⟨b, H1, e1, eq⟩ := abind_truth eq
    rw [arm_isTrue_IfExp]
    refine wpAny_bind (hc s G H b H1 hP I (tst_of e1) _ _ fun v G1 h1 t1 s1 I1 P1 r1 => ?_)
    subst r1
    cases v with
    | true => exact hx.2 _ G1 H1 z H' P1 I1 (tst_of eq) _ _ fun w G2 h2 t2 s2 I2 P2 r2 => hQ w G2 h2 t2 (s1.trans s2) I2 P2 r2
    | false => exact hy.2 _ G1 H1 z H' P1 I1 (tst_of eq) _ _ fun w G2 h2 t2 s2 I2 P2 r2 => hQ w G2 h2 t2 (s1.trans s2) I2 P2 r2
noncomputable abbrev EvB (B : Base) (A : Around) (T : Tabs) (sc : Scope) (ns : List (List Nat)) (env : Env) (F : AF) (p : Pos) (op : BoolOp) (es : List Expr) (m : AM AV) : Prop :=
  (es ≠ [] → Ev B A (FrOK B T sc ns env F) (boolOp p op (evalEach es env)) (Rep B) m) ∧ Ev B A (FrOK B T sc ns env F) (allTrue op es env) (fun _ (x : Bool) (b : Bool) => b = x) (tst m)
theorem evB_nilA {p : Pos} : EvB B A T sc ns env F p .And [] (apure (.bool true)) := ⟨fun h => absurd rfl h, fun s G H x H' hP I eq Q E hQ => by
  obtain ⟨e, rfl⟩ := apure_some (tst_some eq)
  cases e
  exact wpAny_allTrue_And_nil (hQ _ G _ _ (Step.refl ..) I hP rfl)⟩
theorem evB_nilO {p : Pos} : EvB B A T sc ns env F p .Or [] (apure (.bool false)) := ⟨fun h => absurd rfl h, fun s G H x H' hP I eq Q E hQ => by
  obtain ⟨e, rfl⟩ := apure_some (tst_some eq)
  cases e
  exact wpAny_allTrue_Or_nil (hQ _ G _ _ (Step.refl ..) I hP rfl)⟩
theorem boolOp_cons {p : Pos} {op : BoolOp} {x y : Sem Value} {r : List (Sem Value)} {M : Model} {E : Value → Shared → Prop} {s : Shared} {Q : Value → Shared → Prop}
    (h : wpAny M A x (fun v s₁ => wpAny M A (truthy v) (fun t s₂ => match op, t with
      | .And, false | .Or, true => Q v s₂
      | _, _ => wpAny M A (boolOp p op (y :: r)) Q E s₂) E s₁) E s) : wpAny M A (boolOp p op (x :: y :: r)) Q E s := by
  show wpAny M A (do
    let v ← x
    standAt p
    let t ← holding [v] (truthy v)
    match op, t with
    | .And, false | .Or, true => pure v
    | _, _ => boolOp p op (y :: r)) Q E s
  refine wpAny_bind (wpAny_mono h (fun v s₁ h₁ => wpAny_bind (wpAny_standAt (wpAny_bind (wpAny_holding (wpAny_mono h₁ (fun t s₂ h₂ => ?_) fun q_ q_ x => x))))) fun q_ q_ x => x)
  cases op <;> cases t <;> first | exact wpAny_pure h₂ | exact h₂
theorem evB_consA {p : Pos} {x : Expr} {r : List Expr} {mx mr : AM AV} (hx : EvE B A T sc ns env F x mx ∧ EvT B A T sc ns env F x mx) (hr : EvB B A T sc ns env F p .And r mr) (hrn : r = [] → mr = apure (.bool true))
    {m : AM AV} (hm : m = abind mx fun v => abind (aopt (truthA v)) fun t => if t then mr else apure (.bool false)) : EvB B A T sc ns env F p .And (x :: r) m := by
  subst hm
  refine ⟨fun q_ => fun s G H z H' hP I eq Q E hQ => ?_, fun s G H z H' hP I eq Q E hQ => ?_⟩
  · obtain ⟨b, H1, e1, eq⟩ := abind_truth eq
    cases r with
    | nil =>
      refine hx.1 s G H (.bool b) H1 hP I e1 _ _ fun v G1 h1 t1 s1 I1 P1 r1 => ?_
      rw [hrn rfl] at eq
      cases b with
      | true => obtain ⟨rfl, rfl⟩ := apure_some eq; exact hQ v G1 h1 t1 s1 I1 P1 r1
      | false => obtain ⟨rfl, rfl⟩ := apure_some eq; exact hQ v G1 h1 t1 s1 I1 P1 r1
    | cons y r =>
      refine boolOp_cons (hx.1 s G H (.bool b) H1 hP I e1 _ _ fun v G1 h1 t1 s1 I1 P1 r1 => ?_)
      rw [show v = _ from r1]
      refine wpAny_truthy_bool ?_
      cases b with
      | true => exact hr.1 (List.cons_ne_nil _ _) _ G1 H1 z H' P1 I1 eq _ _ fun w G2 h2 t2 s2 I2 P2 r2 => hQ w G2 h2 t2 (s1.trans s2) I2 P2 r2
      | false => obtain ⟨rfl, rfl⟩ := apure_some eq; exact hQ _ G1 h1 t1 s1 I1 P1 rfl
  · have eq := tst_some eq
    obtain ⟨b, H1, e1, eq⟩ := abind_truth eq
    refine wpAny_allTrue_And_cons (hx.2 s G H b H1 hP I (tst_of e1) _ _ fun v G1 h1 t1 s1 I1 P1 r1 => ?_)
    subst r1
    cases v with
    | true => exact hr.2 _ G1 H1 z H' P1 I1 (tst_of eq) _ _ fun w G2 h2 t2 s2 I2 P2 r2 => hQ w G2 h2 t2 (s1.trans s2) I2 P2 r2
    | false => obtain ⟨e, rfl⟩ := apure_some eq; cases e; exact hQ _ G1 h1 t1 s1 I1 P1 rfl
theorem evB_consO {p : Pos} {x : Expr} {r : List Expr} {mx mr : AM AV} (hx : EvE B A T sc ns env F x mx ∧ EvT B A T sc ns env F x mx) (hr : EvB B A T sc ns env F p .Or r mr) (hrn : r = [] → mr = apure (.bool false))
    {m : AM AV} (hm : m = abind mx fun v => abind (aopt (truthA v)) fun t => if t then apure (.bool true) else mr) : EvB B A T sc ns env F p .Or (x :: r) m := by
  subst hm
  refine ⟨fun q_ => fun s G H z H' hP I eq Q E hQ => ?_, fun s G H z H' hP I eq Q E hQ => ?_⟩
  · obtain ⟨b, H1, e1, eq⟩ := abind_truth eq
    cases r with
    | nil =>
      refine hx.1 s G H (.bool b) H1 hP I e1 _ _ fun v G1 h1 t1 s1 I1 P1 r1 => ?_
      rw [hrn rfl] at eq
      cases b with
      | true => obtain ⟨rfl, rfl⟩ := apure_some eq; exact hQ v G1 h1 t1 s1 I1 P1 r1
      | false => obtain ⟨rfl, rfl⟩ := apure_some eq; exact hQ v G1 h1 t1 s1 I1 P1 r1
    | cons y r =>
      refine boolOp_cons (hx.1 s G H (.bool b) H1 hP I e1 _ _ fun v G1 h1 t1 s1 I1 P1 r1 => ?_)
      rw [show v = _ from r1]
      refine wpAny_truthy_bool ?_
      cases b with
      | false => exact hr.1 (List.cons_ne_nil _ _) _ G1 H1 z H' P1 I1 eq _ _ fun w G2 h2 t2 s2 I2 P2 r2 => hQ w G2 h2 t2 (s1.trans s2) I2 P2 r2
      | true => obtain ⟨rfl, rfl⟩ := apure_some eq; exact hQ _ G1 h1 t1 s1 I1 P1 rfl
  · have eq := tst_some eq
    obtain ⟨b, H1, e1, eq⟩ := abind_truth eq
    refine wpAny_allTrue_Or_cons (hx.2 s G H b H1 hP I (tst_of e1) _ _ fun v G1 h1 t1 s1 I1 P1 r1 => ?_)
    subst r1
    cases v with
    | false => exact hr.2 _ G1 H1 z H' P1 I1 (tst_of eq) _ _ fun w G2 h2 t2 s2 I2 P2 r2 => hQ w G2 h2 t2 (s1.trans s2) I2 P2 r2
    | true => obtain ⟨e, rfl⟩ := apure_some eq; cases e; exact hQ _ G1 h1 t1 s1 I1 P1 rfl
end
end
section
set_option Elab.async false
set_option autoImplicit false
set_option linter.unusedVariables false
set_option tactic.hygienic false
set_option genSizeOf false
set_option genInjectivity false
open PySem PySem.W PyProof.Rows PySem.Calls
theorem clip_eq {n d : Nat} {p : Option Int} (h : ∀ i, p = some i → -1 ≤ i) : clip n d p = p.elim d (clipAt n) := rfl
theorem clipAt_le (n : Nat) (i : Int) : clipAt n i ≤ n := Int.ofNat_le.mp (clipAt_cast n i ▸ Int.max_le.mpr ⟨Int.natCast_nonneg n, Int.min_le_right _ _⟩)
theorem clip_le {n d : Nat} {p : Option Int} (hd : d ≤ n) (h : ∀ i, p = some i → -1 ≤ i) : clip n d p ≤ n := by
  cases p with
  | none => exact hd
  | some i => exact clipAt_le n i
theorem cut_eq {α : Type} (xs : List α) (lo hi : Option Int) : cut xs lo hi = (xs.drop (clip xs.length 0 lo)).take (clip xs.length xs.length hi - clip xs.length 0 lo) := by
  unfold cut
  rw [List.drop_take]
section
variable {B : Base} {G : St} {H : AH} {s : Shared}
theorem repL_take {xs : List AV} {vs : List Value} (r : RepL B G xs vs) : ∀ n, RepL B G (xs.take n) (vs.take n) := by
  induction xs generalizing vs with
  | nil => intro n; rw [show vs = [] from r]; simp [RepL]
  | cons x xs ih =>
    obtain ⟨v, q, rfl, a, b⟩ := r
    intro n
    cases n with
    | zero => simp [RepL]
    | succ n => exact ⟨v, _, rfl, a, ih b n⟩
theorem repL_drop {xs : List AV} {vs : List Value} (r : RepL B G xs vs) : ∀ n, RepL B G (xs.drop n) (vs.drop n) := by
  induction xs generalizing vs with
  | nil => intro n; rw [show vs = [] from r]; simp [RepL]
  | cons x xs ih =>
    obtain ⟨v, q, rfl, a, b⟩ := r
    intro n
    cases n with
    | zero => exact ⟨v, _, rfl, a, b⟩
    | succ n => exact ih b n
theorem repL_cut {xs : List AV} {vs : List Value} (r : RepL B G xs vs) (lo hi : Option Int) : RepL B G (cut xs lo hi) (cut vs lo hi) := by
  unfold cut
  rw [r.len]
  exact repL_drop (repL_take r _) _
set_option tactic.hygienic true in
theorem part_some {x : AV} {v : Value} {p : Option Int} (e : part x = some p) (r : Rep B G x v) : (∀ i, p = some i → -1 ≤ i) ∧ ∃ q : Option (Int × Tok), v = partValue q ∧ p = q.map (·.1) ∧ IsPart v p := by
  unfold part at e
  split at e
  · cases e; rw [show v = Value.none from r]; exact ⟨(fun i h => by cases h), none, rfl, rfl, IsPart.none⟩
  · split at e
    · rename_i i h
      cases e
      obtain ⟨t, rfl⟩ := r
      simp only [Bool.and_eq_true, decide_eq_true_eq] at h
      exact ⟨fun j hj => by cases hj; exact h.1, some (i, t), rfl, rfl, .int i t⟩
    · cases e
  · cases e
end
section
variable {prog : Program} {w : World} {A : Around} {E : Value → Shared → Prop} {s : Shared}
theorem slicePart_any {v : Value} {p : Option Int} {Q : Option Int → Shared → Prop} (h : IsPart v p) (hq : Q p s) : wpAny (model prog w) A (Builtin.Slice.slicePartIndex v) Q E s := by
  cases h with
  | none => exact slicePart_none hq
  | int i t => exact slicePart_int hq
theorem adj1 (n : Nat) (v : Int) : (if v < 0 then max (v + n) 0 else min v n) = ((clipAt n v : Nat) : Int) := by
  rw [clipAt_cast]
  by_cases h : v < 0
  · rw [if_pos h, if_pos h, Int.max_comm, Int.min_eq_left (Int.le_of_lt (Int.add_lt_of_lt_sub_right (by rw [Int.sub_self]; exact h)))]
  · rw [if_neg h, if_neg h, Int.max_eq_right (Int.le_min.mpr ⟨Int.not_lt.mp h, Int.natCast_nonneg n⟩)]
theorem adjust_plain (n : Nat) (lo hi : Option Int) (h1 : ∀ i, lo = some i → -1 ≤ i) (h2 : ∀ i, hi = some i → -1 ≤ i) :
    Builtin.Slice.sliceAdjust lo hi 1 (n : Int) = (((clip n 0 lo : Nat) : Int), ((clip n n hi : Nat) : Int)) := by
  cases lo with
  | none => cases hi with
    | none => rfl
    | some j => exact congrArg (Prod.mk _) (adj1 n j)
  | some i => cases hi with
    | none => exact congrArg (Prod.mk · _) (adj1 n i)
    | some j => exact (congrArg (Prod.mk · _) (adj1 n i)).trans (congrArg (Prod.mk _) (adj1 n j))
theorem places_plain (a b : Nat) : Builtin.Slice.slicePlaces (a : Int) (b : Int) 1 = b - a := by
  show (if (a : Int) < (b : Int) then ((b : Int) - a - 1) / 1 + 1 else 0).toNat = b - a
  by_cases h : a < b
  · rw [if_pos (Int.ofNat_lt.mpr h), Int.ediv_one, Int.sub_add_cancel, ← Int.ofNat_sub (Nat.le_of_lt h)]; rfl
  · rw [if_neg (fun q => h (Int.ofNat_lt.mp q)), Nat.sub_eq_zero_of_le (Nat.not_lt.mp h)]; rfl
theorem sliceApplied_plain {sl : Addr} {n : Nat} {vl vu : Value} {lo hi : Option Int} {Q : Int × Int × Nat → Shared → Prop} (hs : s.heap.IsSliceOf sl vl vu .none) (pl : IsPart vl lo) (pu : IsPart vu hi)
    (h1 : ∀ i, lo = some i → -1 ≤ i) (h2 : ∀ i, hi = some i → -1 ≤ i) (h : Q (((clip n 0 lo : Nat) : Int), 1, clip n n hi - clip n 0 lo) s) :
    wpAny (model prog w) A (Builtin.Slice.sliceApplied (.ref sl) (pure (n : Int))) Q E s := by
  obtain ⟨os, hos, hcs, hds⟩ := id hs
  unfold Builtin.Slice.sliceApplied Builtin.Slice.sliceFields
  refine wpAny_bind (wpAny_bind (wpAny_field hos hds (x := vl) rfl (wpAny_bind (wpAny_field hos hds (x := vu) rfl (wpAny_bind (wpAny_field hos hds (x := .none) rfl (wpAny_pure ?_)))))))
  refine wpAny_bind (slicePart_none ?_)
  show wpAny _ _ (if ((1 : Int) == 0) = true then _ else _) _ _ s
  rw [if_neg (by decide)]
  refine wpAny_bind (slicePart_any pl (wpAny_bind (slicePart_any pu (wpAny_bind (wpAny_pure ?_)))))
  show wpAny _ _ (match Builtin.Slice.sliceAdjust lo hi 1 (n : Int) with | (lo, hi) => pure (lo, (1 : Int), Builtin.Slice.slicePlaces lo hi 1)) _ _ s
  rw [adjust_plain n lo hi h1 h2]
  show wpAny _ _ (pure (((clip n 0 lo : Nat) : Int), (1 : Int), Builtin.Slice.slicePlaces ((clip n 0 lo : Nat) : Int) ((clip n n hi : Nat) : Int) 1)) _ _ s
  rw [places_plain]
  exact wpAny_pure h
theorem pick_plain (xs : Array Value) (a k : Nat) : ((List.range k).filterMap fun (j : Nat) => xs[((a : Int) + (j : Int) * 1).toNat]?).toArray = ((xs.toList.drop a).take k).toArray := by
  have e : (fun (j : Nat) => xs[((a : Int) + (j : Int) * 1).toNat]?) = fun j => xs[a + j]? := by
    funext j
    have : ((a : Int) + (j : Int) * 1).toNat = a + j := by omega
    rw [this]
  rw [e]
  have := pick_run xs a k
  rw [List.filterMap_map] at this
  exact congrArg List.toArray this
set_option tactic.hygienic true in
theorem getItem_tuple_slice {t sl : Addr} {items : Array Value} {vl vu : Value} {lo hi : Option Int} {Q : Value → Shared → Prop} (ht : s.heap.IsTuple t items) (hs : s.heap.IsSliceOf sl vl vu .none) (pl : IsPart vl lo) (pu : IsPart vu hi)
    (h1 : ∀ i, lo = some i → -1 ≤ i) (h2 : ∀ i, hi = some i → -1 ≤ i) (hsz : items.size ≤ sizeLine)
    (hw : cut items.toList lo hi = items.toList → Q (.ref t) s)
    (h : Q (.ref s.heap.objs.size) { s with heap := s.heap.push { cls := .type "tuple", data := .seq (cut items.toList lo hi).toArray } }) : wpAny (model prog w) A (getItem (.ref t) (.ref sl)) Q E s := by
  have hcl : (cut items.toList lo hi).length ≤ sizeLine := by
    unfold cut
    rw [List.length_drop, List.length_take, Array.length_toList]
    omega
  have hdrop : sizeOk (.seq (cut items.toList lo hi).toArray) := by
    show (cut items.toList lo hi).toArray.size ≤ sizeLine
    rw [List.size_toArray]; exact hcl
  obtain ⟨os, hos, hcs, hds⟩ := id hs
  have hTs : s.TypeIs (.ref sl) "slice" := ⟨os, hos, hcs⟩
  have htt : s.TypeIs (.ref t) "tuple" := PyProof.Rows.IsTup.typeIs ht
  have ec := cut_eq items.toList lo hi
  rw [Array.length_toList] at ec
  unfold getItem
  try with_reducible refine wpAny_holding ?_
  first | refine wpAny_bind (wpAny_pure ?_) | skip
  refine wpAny_bind (wpAny_sequenceKey htt (by decide) ?_)
  refine wpAny_bind (wpAny_callSpecial?_slot (name := Str.ofString "__getitem__") htt slot_tuple_getitem
    (wpAny_call_entry slot_tuple_getitem htt entry_tuple_getitem ?_ (args_tuple_getitem _ _)))
  show wpAny _ _ (Builtin.Tuple.tupleItemsOf (.ref t) >>= _) _ _ s
  refine wpAny_bind (tupleItemsOf_ ht ?_)
  refine wpAny_bind (wpAny_typeOf hTs ?_)
  rw [if_pos (by decide)]
  refine wpAny_bind (sliceApplied_plain hs pl pu h1 h2 ?_)
  show wpAny _ _ (if (((clip items.size 0 lo : Nat) : Int) == 0 && (1 : Int) == 1 && (clip items.size items.size hi - clip items.size 0 lo) == items.size) = true then _ else _) _ _ s
  split
  · rename_i hc
    simp only [Bool.and_eq_true, beq_iff_eq] at hc
    have hcut : cut items.toList lo hi = items.toList := by
      rw [ec]
      have e0 : clip items.size 0 lo = 0 := by omega
      rw [e0, List.drop_zero, List.take_of_length_le]
      rw [Array.length_toList]; omega
    refine wpAny_bind (wpAny_bind (wpAny_typeOf htt (wpAny_pure ?_)))
    rw [if_pos (by decide)]
    exact wpAny_bind (wpAny_rule (wpAny_pure ⟨_, rfl, wpAny_pure (hw hcut)⟩))
  · rw [pick_plain, ← ec]
    first
      | exact wpAny_bind (m := Builtin.Tuple.tupleExact _) (wpAny_newObj_type (wpAny_pure ⟨_, rfl, wpAny_pure h⟩) hdrop)
      | exact wpAny_bind (m := Builtin.Tuple.tupleExact _) (wpAny_newObj_type (wpAny_bind (wpAny_pure (wpAny_pure ⟨_, rfl, wpAny_pure h⟩))) hdrop)
      | exact wpAny_bind (wpAny_bind (m := Builtin.Tuple.tupleExact _) (wpAny_newObj_type (wpAny_pure (wpAny_pure ⟨_, rfl, wpAny_pure h⟩)) hdrop))
      | exact wpAny_bind (wpAny_bind (m := Builtin.Tuple.tupleExact _) (wpAny_newObj_type (wpAny_pure ⟨_, rfl, wpAny_pure h⟩) hdrop))
theorem sub_slice {env : Env} {value : Expr} {lower upper : Option Expr} {p pos : Pos} {Q : Value → Shared → Prop}
    (h : wpAny (model prog w) A (eval value env) (fun o s₁ => wpAny (model prog w) A (eval (.Slice lower upper none p) env) (fun i s₂ => ∃ T id, s₂.TypeIs o T ∧ typeLookup (.type T) "__getitem__" = pure (some (.builtin id)) ∧
      wpAny (model prog w) A (getItem o i) Q E s₂) E s₁) E s) :
    wpAny (model prog w) A (eval (.Subscript value (.Slice lower upper none p) pos) env) Q E s := by
  rw [eval_Subscript]
  refine wpAny_bind (wpAny_mono h (fun o s₁ h₁ => wpAny_bind (wpAny_holding (wpAny_mono h₁ (fun i s₂ h₂ => wpAny_bind (wpAny_standAt ?_)) fun q_ q_ x => x)))
    fun q_ q_ x => x)
  refine via fun R_ k_ => ?_
  obtain ⟨T, id, hT, hl, hg⟩ := h₂
  refine k_ ?_
  have fin : wpAny (model prog w) A (operate [i, o] (getItem o i)) (fun r s₃ => wpAny (model prog w) A (letTemporaryGo value o r >>= fun q_ => pure r) Q E s₃) E s₂ :=
    wpAny_operating (wpAny_mono hg (fun r s₃ h₃ => wpAny_bind (wpAny_letTemporaryGo (wpAny_pure h₃))) fun q_ q_ x => x)
  refine wpAny_bind ?_
  rw [getitemInPython_of_ne hT.not_modules]
  refine wpAny_bind (wpAny_specialOf hT hl ?_)
  first
    | exact wpAny_pure (wpAny_bind fin)
    | exact wpAny_bind (wpAny_pure (wpAny_bind fin))
    | exact wpAny_bind fin
set_option tactic.hygienic true in
theorem sub_item {env : Env} {value slice : Expr} {pos : Pos} {Q : Value → Shared → Prop} (hs : ∀ l u p, slice ≠ .Slice l u none p)
    (h : wpAny (model prog w) A (eval value env) (fun o s₁ => wpAny (model prog w) A (eval slice env) (fun i s₂ => ∃ T id, s₂.TypeIs o T ∧ typeLookup (.type T) "__getitem__" = pure (some (.builtin id)) ∧
      wpAny (model prog w) A (getItem o i) Q E s₂) E s₁) E s) :
    wpAny (model prog w) A (eval (.Subscript value slice pos) env) Q E s := by
  rw [eval_Subscript]
  refine wpAny_bind (wpAny_mono h (fun o s₁ h₁ => wpAny_bind (wpAny_holding (wpAny_mono h₁ (fun i s₂ h₂ => wpAny_bind (wpAny_standAt ?_)) fun q_ q_ x => x)))
    fun q_ q_ x => x)
  refine via fun R_ k_ => ?_
  obtain ⟨T, id, hT, hl, hg⟩ := h₂
  refine k_ ?_
  have e : subscripted slice false o i = operate [o, i] (getItem o i) := by
    unfold subscripted
    split
    · rename_i l u p; exact absurd rfl (hs l u p)
    · rename_i q; cases q
    · rfl
  have fin : wpAny (model prog w) A (subscripted slice false o i) (fun r s₃ => wpAny (model prog w) A (letTemporaryGo value o r >>= fun q_ => pure r) Q E s₃) E s₂ := by
    rw [e]
    exact wpAny_operating (wpAny_mono hg (fun r s₃ h₃ => wpAny_bind (wpAny_letTemporaryGo (wpAny_pure h₃))) fun q_ q_ x => x)
  refine wpAny_bind ?_
  rw [getitemInPython_of_ne hT.not_modules]
  refine wpAny_bind (wpAny_specialOf hT hl ?_)
  first
    | exact wpAny_pure (wpAny_bind fin)
    | exact wpAny_bind (wpAny_pure (wpAny_bind fin))
    | exact wpAny_bind fin
end
end
section
set_option Elab.async false
set_option autoImplicit false
set_option linter.unusedVariables false
set_option tactic.hygienic false
set_option genSizeOf false
set_option genInjectivity false
open PySem PySem.W PyProof.Rows PySem.Calls
section
variable {B : Base} {A : Around} {G : St} {H : AH} {s : Shared}
set_option tactic.hygienic true in
theorem at_some {α : Type} {xs : List α} {i : Int} {x : α} (e : at? xs i = some x) :
    (0 ≤ i ∧ i < 2 ^ 62 ∧ xs[i.toNat]? = some x) ∨ (i < 0 ∧ -(xs.length : Int) ≤ i ∧ -1000 ≤ i ∧ xs[(i + xs.length).toNat]? = some x) := by
  unfold at? at e
  split at e
  · split at e
    · exact .inl ⟨by assumption, by assumption, e⟩
    · cases e
  · split at e
    · rename_i h1 h2
      exact .inr ⟨by omega, h2.1, h2.2, e⟩
    · cases e
theorem at_seq {α : Type} {xs : List α} {i : Int} {x : α} (e : at? xs i = some x) : -(2 ^ 63) ≤ i ∧ i < 2 ^ 63 ∧ ∃ j, seqIndex? i xs.length = some j ∧ xs[j]? = some x := by
  rcases at_some e with ⟨a, b, c⟩ | ⟨a, b, c, d⟩
  · refine ⟨by omega, by omega, i.toNat, ?_, c⟩
    have hlt : i.toNat < xs.length := (List.getElem?_eq_some_iff.mp c).1
    have q : (if i < 0 then i + (xs.length : Int) else i) = i := if_neg (by omega)
    simp only [seqIndex?, q]
    rw [if_pos (by simp only [Bool.and_eq_true, decide_eq_true_eq]; omega)]
  · refine ⟨by omega, by omega, (i + xs.length).toNat, ?_, d⟩
    have hlt : (i + xs.length).toNat < xs.length := (List.getElem?_eq_some_iff.mp d).1
    have q : (if i < 0 then i + (xs.length : Int) else i) = i + (xs.length : Int) := if_pos a
    simp only [seqIndex?, q]
    rw [if_pos (by simp only [Bool.and_eq_true, decide_eq_true_eq]; omega)]
noncomputable def Item (B : Base) (A : Around) (G : St) (H : AH) (z : AV) (v w : Value) (s : Shared) : Prop :=
  ∃ T id, s.TypeIs v T ∧ typeLookup (.type T) "__getitem__" = pure (some (.builtin id)) ∧ Yields B A (getItem v w) G H H z s
theorem list_item {xs : List AV} {i : Int} {z : AV} {a : Addr} {vs : Array Value} {t : Tok} (I : Inv B G H s.heap) (hl : s.heap.IsList a vs) (r : RepL B G xs vs.toList) (e : at? xs i = some z) :
    Item B A G H z (.ref a) (.int i t) s := by
  refine ⟨"list", _, hl.typeIs, list_getitem_lookup, ?_⟩
  rcases at_some e with ⟨h0, h1, h2⟩ | ⟨h0, h1, h2, h3⟩
  · obtain ⟨v, hv, rv⟩ := repL_get r _ _ h2
    rw [Array.getElem?_toList] at hv
    exact yields_val I rv fun Q E hQ => wpAny_getItem_list hl h0 (by omega) hv (hQ s.toks)
  · obtain ⟨v, hv, rv⟩ := repL_get r _ _ h3
    rw [Array.getElem?_toList] at hv
    have := size_of r
    exact yields_val I rv fun Q E hQ => wpAny_getItem_list_neg hl h0 (by omega) (by omega) (by rw [this]; exact hv) (hQ s.toks)
theorem op_sub {x y z : AV} {v w : Value} (e : asub H x y = some z) (I : Inv B G H s.heap) (rx : Rep B G x v) (ry : Rep B G y w) : Item B A G H z v w s := by
  obtain ⟨i, hi, e⟩ := bind_some (o := toInt y) e
  have hi := toInt_some hi
  subst hi
  obtain ⟨t, rfl⟩ := ry
  cases x with
  | tup xs =>
    obtain ⟨a, vs, rfl, ha, ra⟩ := isTup I rx
    obtain ⟨h0, h1, j, hj, hx⟩ := at_seq e
    obtain ⟨v, hv, rv⟩ := repL_get ra _ _ hx
    rw [Array.getElem?_toList] at hv
    exact ⟨"tuple", _, PyProof.Rows.IsTup.typeIs ha, slot_tuple_getitem.lookup, yields_val I rv fun Q E hQ => PyProof.Rows.getItem_tuple ha h0 h1 (by rw [size_of ra]; exact hj) hv (hQ s.toks)⟩
  | lst xs =>
    obtain ⟨a, vs, rfl, ha, ra⟩ := isLst I rx
    exact list_item I ha ra e
  | str cs =>
    obtain ⟨u, rfl⟩ := rx
    by_cases h0 : 0 ≤ i
    · obtain ⟨c, e', rfl⟩ := map_some (o := at? cs i) (show (at? cs i).map _ = some z from (if_pos h0).symm.trans e)
      obtain ⟨h0, h1, j, hj, hx⟩ := at_seq e'
      refine ⟨"str", _, typeIs_str s _ u, F.slot_str_getitem.lookup, yields_str I fun Q E hQ => PyProof.Rows.getItem_str (c := c) (by rw [Bool.or_eq_false_iff]; exact ⟨decide_eq_false (by omega), decide_eq_false (by omega)⟩) ?_ (hQ _ _)⟩
      rw [toS_length, hj]
      show (toS _).cps[j]? = some c
      simpa [toS] using hx
    · exact nos ((if_neg h0).symm.trans e)
  | dct kvs =>
    obtain ⟨p, e', rfl⟩ := map_some (o := kvs.find? fun p : Int × AV => decide (i = p.1)) (f := fun p => p.2) e
    obtain ⟨a, f, rfl, hm, hf⟩ := intMap I rx
    have := hf i
    rw [e'] at this
    cases hfi : f i with
    | none => rw [hfi] at this; exact this.elim
    | some v =>
      rw [hfi] at this
      exact ⟨"dict", _, hm.typeIs, slot_dict_getitem.lookup, yields_val I this fun Q E hQ => wpAny_getItem_intMap hm hfi (hQ _)⟩
  | obj n =>
    obtain ⟨xs, hH, e⟩ := bind_some (o := listAt H n) e
    obtain ⟨p, hp, rfl⟩ := rx
    obtain ⟨e1, vs, n, hg, ra⟩ := I.objs _ _ _ (listAt_some hH) hp
    exact list_item I ⟨_, hg, rfl, n, rfl⟩ ra e
  | _ => exact nos e
end
section
variable {B : Base} {A : Around} {T : Tabs} {sc : Scope} {ns : List (List Nat)} {env : Env} {F : AF}
theorem ev_sub {a i : Expr} {p : Pos} {ma mi : AM AV} (hs : isSlice i = false) (ha : EvE B A T sc ns env F a ma) (hi : EvE B A T sc ns env F i mi) :
    EvE B A T sc ns env F (.Subscript a i p) (abind ma fun x => abind mi fun y => aread fun H => asub H x y) := fun s G H z H' hP I eq Q E hQ => by
  obtain ⟨x, H1, e1, eq⟩ := abind_some eq
  obtain ⟨y, H2, e2, eq⟩ := abind_some eq
  obtain ⟨e3, rfl⟩ := aread_some eq
  refine sub_item (fun l u q h => by subst h; exact bad hs.symm) (ha s G H x H1 hP I e1 _ _ fun v G1 h1 t1 s1 I1 P1 r1 => ?_)
  refine hi _ G1 H1 y _ P1 I1 e2 _ _ fun u G2 h2 t2 s2 I2 P2 r2 => ?_
  refine via fun R_ k_ => ?_
  obtain ⟨T', id, hT, hl, hy⟩ := op_sub (A := A) (s := { s with heap := h2, toks := t2 }) e3 I2 (s2.rep r1) r2
  refine k_ ?_
  exact ⟨T', id, hT, hl, hy.use P2 (s1.trans s2) fun v G' h' tk' => hQ v G' h' tk'⟩
noncomputable abbrev EvP (B : Base) (A : Around) (T : Tabs) (sc : Scope) (ns : List (List Nat)) (env : Env) (F : AF) (e : Option Expr) (m : AM AV) : Prop :=
  Ev B A (FrOK B T sc ns env F) (evalPart e env) (Rep B) m
theorem evp_none : EvP B A T sc ns env F none (apure .none) := fun s G H x H' hP I e Q E hQ => by
  obtain ⟨rfl, rfl⟩ := apure_some e
  exact wpAny_pure (hQ .none G s.heap s.toks (Step.refl ..) I hP rfl)
theorem slice_is {a sl : Addr} {o : Obj} {h : Heap} {vl vu : Value} (e : h.objs.size = sl) : (h.push { cls := .type "slice", data := .fields #[vl, vu, .none] }).IsSliceOf sl vl vu .none := by
  subst e
  exact Heap.IsSliceOf.new ..
theorem cut_length {α : Type} (xs : List α) (lo hi : Option Int) : (cut xs lo hi).length ≤ xs.length := by
  unfold cut
  rw [List.length_drop, List.length_take]
  omega
theorem cut_map {α β : Type} (f : α → β) (xs : List α) (lo hi : Option Int) : cut (xs.map f) lo hi = (cut xs lo hi).map f := by
  unfold cut
  simp [List.map_drop, List.map_take]
theorem strCut (cs : List Nat) (lo hi : Option Int) (h1 : ∀ i, lo = some i → -1 ≤ i) (h2 : ∀ i, hi = some i → -1 ≤ i) :
    Builtin.Str.strSliceIndices lo hi 1 cs.length = (List.range (clip cs.length cs.length hi - clip cs.length 0 lo)).map (clip cs.length 0 lo + ·) := by
  refine Eq.trans ?_ (sliceRange_one _ _)
  cases lo with
  | none => cases hi with
    | none => rfl
    | some j => exact congrArg (sliceRange _ · 1) (clipAt_cast cs.length j).symm
  | some i => cases hi with
    | none => exact congrArg (sliceRange · _ 1) (clipAt_cast cs.length i).symm
    | some j => exact (congrArg (sliceRange · _ 1) (clipAt_cast cs.length i).symm).trans (congrArg (sliceRange _ · 1) (clipAt_cast cs.length j).symm)
section
variable {G : St} {H : AH} {s : Shared}
theorem slc_lst {xs : List AV} {lo hi : Option Int} {a b : Addr} {v2 v3 : Value} {vs : Array Value} (I : Inv B G H s.heap) (sl : s.heap.IsSliceOf a v2 v3 .none) (n1 : ∀ i, lo = some i → -1 ≤ i) (n2 : ∀ i, hi = some i → -1 ≤ i) (k1 : IsPart v2 lo) (k2 : IsPart v3 hi)
    (hb : s.heap.IsList b vs) (ra : RepL B G xs vs.toList) (hz : xs.length ≤ 1048576) : Item B A G H (.lst (cut xs lo hi)) (.ref b) (.ref a) s := by
  refine ⟨"list", _, hb.typeIs, list_getitem_lookup, ?_⟩
  have hsz := size_of ra
  refine yields_lst (vs := slicePick vs lo hi none) I ?_ fun Q E hQ => wpAny_getItem_list_slice hb sl k1 k2 .none (by simp) (hQ s.toks) (by rw [hsz, sizeLine_eq]; omega)
  rw [slicePick_plain, ← clip_eq n1, ← clip_eq n2]
  have := repL_cut ra lo hi
  rw [cut_eq, cut_eq, Array.length_toList] at this
  rw [cut_eq]
  exact this
set_option tactic.hygienic true in
theorem slc_str {cs : List Nat} {a : Addr} {t : Tok} {p1 p2 : Option (Int × Tok)} (I : Inv B G H s.heap) (sl : s.heap.IsSliceOf a (partValue p1) (partValue p2) .none) (n1 : ∀ i, p1.map (·.1) = some i → -1 ≤ i) (n2 : ∀ i, p2.map (·.1) = some i → -1 ≤ i)
    (hz : cs.length ≤ 1048576) : Item B A G H (.str (cut cs (p1.map (·.1)) (p2.map (·.1)))) (.str (toS cs) t) (.ref a) s := by
  refine ⟨"str", _, typeIs_str _ _ t, PySem.F.slot_str_getitem.lookup, ?_⟩
  generalize q1' : p1.map (·.1) = lo at n1
  generalize q2' : p2.map (·.1) = hi at n2
  refine yields_str I fun Q E hQ => wpAny_getItem_str_slice (l := p1) (u := p2) (st := none) sl rfl ?_
  have ep : slicePicked (toS cs) p1 p2 none = (List.range (clip cs.length cs.length hi - clip cs.length 0 lo)).map (clip cs.length 0 lo + ·) := by
    unfold slicePicked
    rw [q1', q2', toS_length]
    exact strCut cs lo hi n1 n2
  have l1 := clip_le (Nat.zero_le cs.length) n1
  have l2 := clip_le (Nat.le_refl cs.length) n2
  unfold sliceMade
  split
  · rename_i hw
    simp only [Bool.and_eq_true, beq_iff_eq] at hw
    rw [ep, List.length_map, List.length_range, toS_length] at hw
    have : cut cs lo hi = cs := by
      rw [cut_eq]
      have e0 : clip cs.length 0 lo = 0 := by omega
      rw [e0, List.drop_zero, List.take_of_length_le (by omega)]
    rw [this] at hQ
    exact hQ t s.toks
  · rw [ep]
    have e6 : (⟨((List.range (clip cs.length cs.length hi - clip cs.length 0 lo)).map (clip cs.length 0 lo + ·)).filterMap ((toS cs).cps[·]?) |>.toArray⟩ : Str) = toS (cut cs lo hi) := by
      unfold toS
      rw [pick_run cs.toArray, cut_eq]
    rw [e6]
    exact ⟨by rw [toS_length, sizeLine_eq]; have := cut_length cs lo hi; omega, hQ _ _⟩
theorem slc_tup {xs : List AV} {lo hi : Option Int} {a : Addr} {v v2 v3 : Value} (I : Inv B G H s.heap) (sl : s.heap.IsSliceOf a v2 v3 .none) (n1 : ∀ i, lo = some i → -1 ≤ i) (n2 : ∀ i, hi = some i → -1 ≤ i) (k1 : IsPart v2 lo) (k2 : IsPart v3 hi)
    (r : Rep B G (.tup xs) v) (hz : xs.length ≤ 1048576) : Item B A G H (.tup (cut xs lo hi)) v (.ref a) s := by
  obtain ⟨b, vs, n, rfl, g, ra⟩ := r
  have hb : s.heap.IsTuple b vs := ⟨_, I.sub _ _ g, rfl, n, rfl⟩
  have hsz := size_of ra
  refine ⟨"tuple", _, PyProof.Rows.IsTup.typeIs hb, slot_tuple_getitem.lookup, ?_⟩
  intro Q E hQ
  have rc := repL_cut ra lo hi
  refine getItem_tuple_slice hb sl k1 k2 n1 n2 (by rw [hsz, sizeLine_eq]; omega) (fun hw => ?_) ?_
  · rw [hw] at rc
    exact hQ _ _ _ s.toks (Step.refl ..) I ⟨b, vs, n, rfl, g, rc⟩
  · have st := Step.alloc I (tplO (cut vs.toList lo hi).toArray 0)
    exact hQ _ _ _ s.toks st (I.alloc _ rfl) ⟨_, _, 0, rfl, St.put_at .., st.repL (by simpa using rc)⟩
theorem op_slc {a : Addr} {x l u z : AV} {v1 v2 v3 : Value} (e : aslc H x l u = some z) (I : Inv B G H s.heap) (sl : s.heap.IsSliceOf a v2 v3 .none) (r1 : Rep B G x v1) (r2 : Rep B G l v2) (r3 : Rep B G u v3) : Item B A G H z v1 (.ref a) s := by
  refine via fun R_ k_ => ?_
  obtain ⟨lo, el, e⟩ := bind_some (o := part l) e
  obtain ⟨hi, eh, e⟩ := bind_some (o := part u) e
  obtain ⟨n1, p1, q1, q1', k1⟩ := part_some el r2
  obtain ⟨n2, p2, q2, q2', k2⟩ := part_some eh r3
  refine k_ ?_
  cases x with
  | tup xs =>
    obtain ⟨hz, rfl⟩ := aif_some e
    exact slc_tup I sl n1 n2 k1 k2 r1 hz
  | lst xs =>
    obtain ⟨hz, rfl⟩ := aif_some e
    obtain ⟨b, vs, rfl, hb, ra⟩ := isLst I r1
    exact slc_lst I sl n1 n2 k1 k2 hb ra hz
  | row xs =>
    obtain ⟨hz, rfl⟩ := aif_some e
    obtain ⟨b, vs, rfl, hb, ra⟩ := isRow I r1
    exact slc_lst I sl n1 n2 k1 k2 hb ra hz
  | str cs =>
    obtain ⟨hz, rfl⟩ := aif_some e
    obtain ⟨t, rfl⟩ := r1
    subst q1; subst q2; subst q1'; subst q2'
    exact slc_str I sl n1 n2 hz
  | obj n =>
    obtain ⟨xs, hH, e⟩ := bind_some (o := listAt H n) e
    obtain ⟨hz, rfl⟩ := aif_some e
    obtain ⟨p, hp, rfl⟩ := r1
    obtain ⟨e1', vs, n, hg, ra⟩ := I.objs _ _ _ (listAt_some hH) hp
    exact slc_lst I sl n1 n2 k1 k2 ⟨_, hg, rfl, n, rfl⟩ ra hz
  | _ => exact nos e
end
theorem ev_slc {a : Expr} {l u : Option Expr} {p q : Pos} {ma ml mu : AM AV} (ha : EvE B A T sc ns env F a ma) (hl : EvP B A T sc ns env F l ml) (hu : EvP B A T sc ns env F u mu) :
    EvE B A T sc ns env F (.Subscript a (.Slice l u none q) p) (abind ma fun x => abind ml fun l => abind mu fun h => aread fun H => aslc H x l h) := fun s G H z H' hP I eq Q E hQ => by
  obtain ⟨x, H1, e1, eq⟩ := abind_some eq
  obtain ⟨y, H2, e2, eq⟩ := abind_some eq
  obtain ⟨w, H3, e3, eq⟩ := abind_some eq
  obtain ⟨e4, rfl⟩ := aread_some eq
  refine sub_slice (ha s G H x H1 hP I e1 _ _ fun v1 G1 h1 t1 s1 I1 P1 r1 => wpAny_Slice ?_)
  refine hl _ G1 H1 y _ P1 I1 e2 _ _ fun v2 G2 h2 t2 s2 I2 P2 r2 => ?_
  refine hu _ G2 H2 w _ P2 I2 e3 _ _ fun v3 G3 h3 t3 s3 I3 P3 r3 => wpAny_pure ?_
  have s4 : Step B Pure G3 h3 (G3.put h3.objs.size { cls := .type "slice", data := .fields #[v2, v3, .none] }) (h3.push { cls := .type "slice", data := .fields #[v2, v3, .none] }) := Step.alloc I3 _
  refine via fun R_ k_ => ?_
  obtain ⟨T', id, hT, hl, hy⟩ := op_slc (A := A) (s := { s with heap := h3.push { cls := .type "slice", data := .fields #[v2, v3, .none] }, toks := t3 }) e4 (I3.alloc _ rfl) (Heap.IsSliceOf.new ..) (s4.rep (s3.rep (s2.rep r1))) (s4.rep (s3.rep r2)) (s4.rep r3)
  refine k_ ?_
  exact ⟨T', id, hT, hl, hy.use (P3.step s4) (s1.trans (s2.trans (s3.trans s4))) fun v G' h' tk' => hQ v G' h' tk'⟩
end
end
section
set_option Elab.async false
set_option autoImplicit false
set_option linter.unusedVariables false
set_option tactic.hygienic false
set_option genSizeOf false
set_option genInjectivity false
open PySem PySem.W PyProof.Rows PySem.Calls
noncomputable def St.add (G : St) (p : Addr × Option Addr) : St := { G with al := G.al ++ [p] }
theorem adr_add (G : St) (p : Addr × Option Addr) : (G.add p).adr = G.adr ++ adrOf [p] := adrOf_append _ _
theorem at_append {α : Type} {l : List α} {x y : α} {i : Nat} (e : (l ++ [x])[i]? = some y) : l[i]? = some y ∨ (i = l.length ∧ y = x) := by
  rcases Nat.lt_trichotomy i l.length with h | h | h
  · rw [List.getElem?_append_left h] at e; exact .inl e
  · subst h; rw [List.getElem?_append_right (Nat.le_refl _), Nat.sub_self] at e; cases e; exact .inr ⟨rfl, rfl⟩
  · rw [List.getElem?_append_right (Nat.le_of_lt h)] at e
    have : i - l.length ≠ 0 := by omega
    cases q : i - l.length with
    | zero => exact absurd q this
    | succ n => rw [q] at e; simp at e
theorem Inv.addObj {B : Base} {G : St} {H : AH} {h : Heap} (I : Inv B G H h) {p : Addr × Option Addr} {ao : AObj} (new : ∀ a ∈ adrOf [p], G.g a = none ∧ a ∉ G.adr ∧ a ∉ B.tabP ∧ ∃ o, h.get? a = some o)
    (nd : (adrOf [p]).Nodup) (ok : AObjOk B (G.add p) h p ao) : Inv B (G.add p) (H ++ [ao]) h where
  sub := I.sub
  old := I.old
  len := by
    show (G.al ++ [p]).length = _
    rw [List.length_append, List.length_append, I.len]; rfl
  nod := by
    rw [adr_add]
    refine List.nodup_append.mpr ⟨I.nod, nd, fun a ha b hb e => ?_⟩
    subst e
    exact (new a hb).2.1 ha
  off := fun a ha => by
    rw [adr_add] at ha
    rcases List.mem_append.mp ha with ha | ha
    · exact I.off a ha
    · exact ⟨(new a ha).1, (new a ha).2.2⟩
  objs := fun i o q a b => by
    rcases at_append a with a' | ⟨a1, a2⟩
    · have hi : i < G.al.length := by rw [I.len]; exact (List.getElem?_eq_some_iff.mp a').1
      have b' : G.al[i]? = some q := by
        have : (G.al ++ [p])[i]? = some q := b
        rwa [List.getElem?_append_left hi] at this
      exact AObjOk.mono (G := G) (G' := G.add p) (fun q_ q_ e => e) (fun j r e => by
        show (G.al ++ [p])[j]? = some r
        rw [List.getElem?_append_left (List.getElem?_eq_some_iff.mp e).1]; exact e) (fun q_ e => e) (fun q_ q_ q_ e => e) (I.objs i o q a' b')
    · subst a2
      have b' : (G.al ++ [p])[i]? = some q := b
      rw [a1, ← I.len, List.getElem?_append_right (Nat.le_refl _), Nat.sub_self] at b'
      cases b'
      exact ok
theorem Step.addObj {B : Base} {X : Addr → Prop} {G G' : St} {h h' : Heap} (st : Step B X G h G' h') {p : Addr × Option Addr} (new : ∀ a ∈ adrOf [p], h.get? a = none) : Step B X G h (G'.add p) h' where
  live := st.live
  mono := st.mono
  ext := st.ext
  al := by
    obtain ⟨l, e, k⟩ := st.al
    refine ⟨l ++ [p], by show G'.al ++ [p] = _; rw [e, List.append_assoc], fun a ha n => ?_⟩
    rw [adrOf_append] at ha
    rcases List.mem_append.mp ha with ha | ha
    · exact k a ha n
    · exact new a ha
  keep := st.keep
theorem new_lst {B : Base} {G : St} {H : AH} {h : Heap} {xs : List AV} {vs : Array Value} (I : Inv B G H h) (r : RepL B G xs vs.toList) :
    ∃ G', Step B Pure G h G' (h.push (lstO vs 0)) ∧ Inv B G' (H ++ [.list xs]) (h.push (lstO vs 0)) ∧ Rep B G' (.obj H.length) (.ref h.objs.size) := by
  have hk : ∀ b o, h.get? b = some o → (h.push (lstO vs 0)).get? b = some o := fun b o e => Heap.get?_push_of_some _ e
  have s2 : Step B Pure G h G (h.push (lstO vs 0)) := Step.priv hk
  have s3 := s2.addObj (p := (h.objs.size, none)) (fun a ha => by rw [show a = h.objs.size by simpa [adrOf] using ha]; exact Heap.get?_end _)
  refine ⟨_, s3, (I.keeps fun b o q_ e => hk b o e).addObj (fun a ha => ?_) (by simp [adrOf]) ⟨rfl, vs, 0, Heap.get?_push_size _ rfl, s3.repL r⟩, (h.objs.size, none), ?_, rfl⟩
  · rw [show a = h.objs.size by simpa [adrOf] using ha]
    exact ⟨I.gNew (Nat.le_refl _), fun m => absurd (I.lt m) (Nat.lt_irrefl _), fun m => absurd (I.tabLt m) (Nat.lt_irrefl _), _, Heap.get?_push_size _ rfl⟩
  · show (G.al ++ [_])[H.length]? = _
    rw [← I.len, List.getElem?_append_right (Nat.le_refl _), Nat.sub_self]; rfl
section
variable {B : Base} {A : Around} {T : Tabs} {sc : Scope} {ns : List (List Nat)} {env : Env} {F : AF}
theorem ev_lst {mu : Bool} {p : Pos} {es : List Expr} {ms : AM (List AV)} (h : EvL B A T sc ns env F p es ms) (hl : ∀ H xs H', ms H = some (xs, H') → xs.length ≤ 1000) :
    EvE B A T sc ns env F (.List es p) (abind ms fun xs => amk mu xs) := fun s G H x H' hP I eq Q E hQ => by
  obtain ⟨xs, H1, e1, eq⟩ := abind_some eq
  refine wpAny_List (h s G H xs _ hP I e1 _ _ fun vs G1 h1 t1 s1 I1 P1 r1 => ⟨?_, ?_⟩)
  · have := hl _ _ _ e1
    rw [r1.len, sizeLine_eq]
    omega
  · cases mu with
    | false =>
      obtain ⟨rfl, rfl⟩ := apure_some (y := AV.lst xs) eq
      have s2 := Step.alloc I1 (lstO vs.toArray 0)
      exact hQ _ _ _ _ (s1.trans s2) (I1.alloc _ rfl) (P1.step s2) ⟨_, vs.toArray, 0, rfl, St.put_at .., s2.repL r1⟩
    | true =>
      cases (show anewL xs H1 = some (x, H') from eq)
      obtain ⟨G2, s2, I2, r2⟩ := new_lst (vs := vs.toArray) I1 r1
      exact hQ _ _ _ _ (s1.trans s2) I2 (P1.step s2) r2
end
theorem fld_object (f : Fld) : typeLookup (.type "object") f.name = pure none := by
  cases f <;> (rw [typeLookup_type, builtinLookup_eq_fast]; kernel_rfl)
noncomputable abbrev allFlds : List Fld := [.kind, .text, .depth, .frames, .steps, .loops, .ic, .ml, .left, .waiting]
theorem mem_flds (f : Fld) : f ∈ allFlds := by cases f <;> decide
noncomputable def fldOf (x : Str) : Option Fld := allFlds.find? fun f => decide (f.name = x)
theorem fldOf_name (f : Fld) : fldOf f.name = some f := by cases f <;> kernel_rfl
theorem fld_inj {f g : Fld} (h : f.name = g.name) : f = g :=
  Option.some.inj ((fldOf_name f).symm.trans ((congrArg fldOf h).trans (fldOf_name g)))
structure ClassAt (B : Base) (c : Cls) (mN : Str → Option Value) : Prop where
  obj : ∃ cr : CR, B.h₀.get? (B.clA c) = some (cr.obj (B.clA c) [.type "object"] false "object.__new__") ∧ B.h₀.Ns cr.N mN ∧ cr.N ∉ B.tabP
  tab : B.clA c ∉ B.tabP
  gab : mN "__getattribute__" = none
  gat : mN "__getattr__" = none
  sat : mN "__setattr__" = none
  fld : ∀ f : Fld, mN f.name = none
  ini : ∀ k, B.Gl.ini c = some k → mN "__init__" = some (.ref (B.fnA k)) ∧ ∃ o, B.h₀.get? (B.fnA k) = some o ∧ B.fnA k ∉ B.tabP ∧ o.cls = .type "function"
  mth : ∀ j k, B.Gl.mth c j = some k → ∃ n y, B.T.mnames[j]? = some n ∧ mN (toS n) = some (.ref (B.fnA k)) ∧ typeLookup (.type "object") (toS n) = pure y ∧ (∀ f : Fld, f.name ≠ toS n) ∧ ∃ o, B.h₀.get? (B.fnA k) = some o ∧ B.fnA k ∉ B.tabP ∧ o.cls = .type "function"
noncomputable def ClassesOk (B : Base) : Prop := ∀ c, c ≠ Cls.fail → ∃ mN, ClassAt B c mN
section
variable {B : Base} {A : Around} {G : St} {H : AH} {s : Shared}
theorem rep_handed {x : AV} {v : Value} (r : Rep B G x v) : handedOut v = pure v := by
  cases x with
  | none => rw [show v = _ from r]; rfl
  | bool b => rw [show v = _ from r]; rfl
  | int i => obtain ⟨t, rfl⟩ := r; rfl
  | str i => obtain ⟨t, rfl⟩ := r; rfl
  | tup i => obtain ⟨a, _, _, rfl, _⟩ := r; rfl
  | lst i => obtain ⟨a, _, _, rfl, _⟩ := r; rfl
  | row i => obtain ⟨a, _, _, rfl, _⟩ := r; rfl
  | dct i => obtain ⟨a, _, _, rfl, _⟩ := r; rfl
  | obj i => obtain ⟨a, _, rfl⟩ := r; rfl
  | fn i => rw [show v = _ from r]; rfl
  | cls i => rw [show v = _ from r]; rfl
  | bi i => rw [show v = _ from r]; cases i <;> first | rfl | kernel_rfl
theorem inst_at {i : Nat} {c : Cls} {fs : Fld → Option AV} {p : Addr × Option Addr} (I : Inv B G H s.heap) (hH : H[i]? = some (.inst c fs)) (hp : G.al[i]? = some p) :
    ∃ m, s.heap.Inst p.1 (B.clA c) m ∧ (∀ f, match fs f with | some av => ∃ v, m f.name = some v ∧ Rep B G av v | none => m f.name = none) ∧ ∀ y, m y ≠ none → ∃ f, y = Fld.name f := by
  refine via fun R_ k_ => ?_
  obtain ⟨d, m, e, g, n, f, y⟩ := I.objs _ _ _ hH hp
  refine k_ ?_
  refine ⟨m, ⟨_, g, rfl, fun c e => (by cases e), .inr ⟨d, rfl, fun q => ?_, n⟩⟩, f, y⟩
  subst q
  refine via fun R_ k_ => ?_
  obtain ⟨o, es, ep, e1, e2, _⟩ := n
  refine k_ ?_
  rw [g] at e1; cases e1; cases e2
theorem alist_some {x : AV} {p : Nat × List AV} {H H' : AH} (e : alist x H = some (p, H')) : x = .obj p.1 ∧ H[p.1]? = some (.list p.2) ∧ H' = H := by
  refine via fun R_ k_ => ?_
  obtain ⟨n, hn, e⟩ := bind_some (o := toObj x) e
  obtain ⟨xs, hx, e⟩ := map_some (o := listAt H n) e
  refine k_ ?_
  cases e
  exact ⟨toObj_some hn, listAt_some hx, rfl⟩
theorem instAt_some {H : AH} {n : Nat} {p : Cls × (Fld → Option AV)} (h : instAt H n = some p) : H[n]? = some (.inst p.1 p.2) ∧ p.1 ≠ .fail := by
  unfold instAt at h
  revert h
  cases H[n]? with
  | none => exact fun h => nos h
  | some o => cases o with
    | list ys => exact fun h => nos h
    | inst c f =>
      intro h
      by_cases hc : c = .fail
      · exact nos ((if_pos hc).symm.trans h)
      · cases (if_neg hc).symm.trans h
        exact ⟨rfl, hc⟩
theorem ainst_some {x : AV} {p : Nat × Cls × (Fld → Option AV)} {H H' : AH} (e : ainst x H = some (p, H')) : x = .obj p.1 ∧ H[p.1]? = some (.inst p.2.1 p.2.2) ∧ p.2.1 ≠ .fail ∧ H' = H := by
  refine via fun R_ k_ => ?_
  obtain ⟨n, hn, e⟩ := bind_some (o := toObj x) e
  obtain ⟨xs, hx, e⟩ := map_some (o := instAt H n) e
  refine k_ ?_
  cases e
  exact ⟨toObj_some hn, (instAt_some hx).1, (instAt_some hx).2, rfl⟩
theorem op_attr (K : ClassesOk B) {x z : AV} {v : Value} {f : Fld} {H' : AH} {ex : Bool} (e : agetA x f H = some (z, H')) (I : Inv B G H s.heap) (rx : Rep B G x v) : H' = H ∧ Yields B A (getAttr v f.name ex) G H H z s := by
  refine via fun R_ k_ => ?_
  obtain ⟨⟨i, c, fs⟩, H1, e1, e0⟩ := abind_some e
  refine k_ ?_
  clear e
  obtain ⟨rfl, hH, hc, rfl⟩ := ainst_some e1
  obtain ⟨e5, rfl⟩ := aopt_some e0
  refine ⟨rfl, ?_⟩
  obtain ⟨p, hp, rfl⟩ := rx
  obtain ⟨m, Im, hm, _⟩ := inst_at (c := c) (fs := fs) I hH hp
  have := hm f
  rw [show fs f = some z from e5] at this
  refine via fun R_ k_ => ?_
  obtain ⟨w, hw, rw'⟩ := this
  obtain ⟨mN, CA⟩ := K c hc
  obtain ⟨cr, hC, hN, hNt⟩ := CA.obj
  obtain ⟨hp, g, d, tk, os⟩ := s
  refine k_ ?_
  exact yields_val I rw' fun Q E hQ => load_attr (I.sub _ _ (I.old _ _ hC CA.tab)) (I.ns hNt hN) CA.gab (CA.fld f) (fld_object f) Im hw (rep_handed rw') (hQ _)
end
end
section
set_option Elab.async false
set_option autoImplicit false
set_option linter.unusedVariables false
set_option tactic.hygienic false
set_option genSizeOf false
set_option genInjectivity false
open PySem PySem.W PyProof.Rows PySem.Calls
theorem adr_disj : ∀ {l : List (Addr × Option Addr)} {i j : Nat} {p q : Addr × Option Addr}, (adrOf l).Nodup → l[i]? = some p → l[j]? = some q → i ≠ j → ∀ a, a ∈ adrOf [p] → a ∈ adrOf [q] → False
  | [], _, _, _, _, _, h, _, _, _, _, _ => by cases h
  | r :: l, i, j, p, q, hn, hi, hj, hij, a, ap, aq => by
    have e : adrOf (r :: l) = adrOf [r] ++ adrOf l := by
      show _ = (r.1 :: (r.2.toList ++ [])) ++ adrOf l
      rw [List.append_nil]; rfl
    have mem : ∀ {k : Nat} {t : Addr × Option Addr}, l[k]? = some t → a ∈ adrOf [t] → a ∈ adrOf l := by
      intro k t hk ha
      have ha : a ∈ t.1 :: (t.2.toList ++ []) := ha
      rw [List.append_nil] at ha
      rcases List.mem_cons.mp ha with rfl | ha
      · exact mem_adr1 hk
      · exact mem_adr2 hk (by simpa using ha)
    rw [e] at hn
    obtain ⟨h1, h2, h3⟩ := List.nodup_append.mp hn
    cases i with
    | zero =>
      cases hi
      cases j with
      | zero => exact hij rfl
      | succ j => exact h3 a ap a (mem hj aq) rfl
    | succ i =>
      cases j with
      | zero => cases hj; exact h3 a aq a (mem hi ap) rfl
      | succ j => exact adr_disj h2 hi hj (fun e => hij (by rw [e])) a ap aq
theorem adr_one {p : Addr × Option Addr} {a : Addr} : a ∈ adrOf [p] ↔ a = p.1 ∨ p.2 = some a := by
  show a ∈ p.1 :: (p.2.toList ++ []) ↔ _
  rw [List.append_nil, List.mem_cons]
  simp
section
variable {B : Base} {G : St} {H : AH} {h h' : Heap}
theorem Inv.upd (I : Inv B G H h) {i : Nat} {p : Addr × Option Addr} {ao ao' : AObj} (hH : H[i]? = some ao) (hp : G.al[i]? = some p) (k : ∀ b o, b ∉ adrOf [p] → h.get? b = some o → h'.get? b = some o)
    (live : ∀ a ∈ adrOf [p], ∃ o, h'.get? a = some o) (ok : AObjOk B G h' p ao') : Inv B G (H.set i ao') h' where
  sub := fun b o e => k b o (fun m => by
    rw [(I.off b (by
      rcases adr_one.mp m with rfl | m
      · exact mem_adr1 hp
      · exact mem_adr2 hp m)).1] at e; cases e) (I.sub b o e)
  old := I.old
  len := by rw [I.len, List.length_set]
  nod := I.nod
  off := fun a ha => by
    obtain ⟨e, t, o, q⟩ := I.off a ha
    refine ⟨e, t, ?_⟩
    by_cases m : a ∈ adrOf [p]
    · exact live a m
    · exact ⟨o, k a o m q⟩
  objs := fun j o q a b => by
    by_cases hij : i = j
    · subst hij
      rw [hp] at b; cases b
      have hlt : i < H.length := (List.getElem?_eq_some_iff.mp hH).1
      rw [List.getElem?_set_self hlt] at a; cases a
      exact ok
    · rw [List.getElem?_set_ne hij] at a
      refine AObjOk.mono (fun q_ q_ e => e) (fun q_ q_ e => e) (fun o' e => k _ _ (fun m => ?_) e) (fun d o' q' e => k _ _ (fun m => ?_) e) (I.objs j o q a b)
      · exact adr_disj I.nod hp b hij _ m (adr_one.mpr (.inl rfl))
      · exact adr_disj I.nod hp b hij _ m (adr_one.mpr (.inr q'))
theorem Step.upd (I : Inv B G H h) {i : Nat} {p : Addr × Option Addr} (hp : G.al[i]? = some p) (k : ∀ b o, b ∉ adrOf [p] → h.get? b = some o → h'.get? b = some o)
    (live : ∀ a ∈ adrOf [p], ∃ o, h'.get? a = some o) : Step B Pure G h G h' where
  live := fun b o q_ e => by
    by_cases m : b ∈ adrOf [p]
    · exact live b m
    · exact ⟨o, k b o m e⟩
  mono := fun q_ q_ e => e
  ext := fun q_ q_ q_ q_ => rfl
  al := ⟨[], (List.append_nil _).symm, fun q_ hm => nomatch hm⟩
  keep := fun b o q_ hb q_ e => k b o (fun m => hb (by
    rcases adr_one.mp m with rfl | m
    · exact mem_adr1 hp
    · exact mem_adr2 hp m)) e
theorem mapSeq_lst (f : Array Value → Array Value) (vs : Array Value) (n : Nat) : ∃ n', Obj.mapSeq f (lstO vs n) = lstO (f vs) n' := ⟨_, rfl⟩
theorem Inv.updList (I : Inv B G H h) {i : Nat} {p : Addr × Option Addr} {xs ys : List AV} {vs : Array Value} {n : Nat} (f : Array Value → Array Value) (hH : H[i]? = some (.list xs)) (hp : G.al[i]? = some p) (e2 : p.2 = none)
    (hg : h.get? p.1 = some (lstO vs n)) (r : RepL B G ys (f vs).toList) :
    Inv B G (H.set i (.list ys)) (h.update p.1 (Obj.mapSeq f)) ∧ Step B Pure G h G (h.update p.1 (Obj.mapSeq f)) := by
  obtain ⟨n', q⟩ := mapSeq_lst f vs n
  have hs : (h.update p.1 (Obj.mapSeq f)).get? p.1 = some (lstO (f vs) n') := by
    rw [Heap.get?_update_self _ hg (by rw [q]; rfl), q]
  have k : ∀ b o, b ∉ adrOf [p] → h.get? b = some o → (h.update p.1 (Obj.mapSeq f)).get? b = some o := fun b o m e => by
    have := (Heap.SameBut.update (h := h) (a := p.1) (f := Obj.mapSeq f)).2 b (fun q => m (adr_one.mpr (.inl q)))
    rw [this]; exact e
  have live : ∀ a ∈ adrOf [p], ∃ o, (h.update p.1 (Obj.mapSeq f)).get? a = some o := fun a m => by
    rcases adr_one.mp m with rfl | m
    · exact ⟨_, hs⟩
    · rw [e2] at m; cases m
  exact ⟨I.upd hH hp k live ⟨e2, f vs, n', hs, r⟩, Step.upd I hp k live⟩
end
section
variable {B : Base} {A : Around} {G : St} {H H' : AH} {s : Shared}
theorem setItem_plain {prog : Program} {w : World} {E : Value → Shared → Prop} {l : Addr} {vs : Array Value} {n : Nat} {k : Int} {t : Tok} {v : Value} {Q : Unit → Shared → Prop} (hl : s.heap.get? l = some (lstO vs n))
    (h0 : 0 ≤ k) (hfit : k < 2 ^ 63) (hn : k < vs.size) (hQ : Q () { s with heap := s.heap.update l (Obj.mapSeq (·.setIfInBounds k.toNat v)) }) :
    wpAny (model prog w) A (setItem (.ref l) (.int k t) v) Q E s := by
  have hT : s.TypeIs (.ref l) "list" := ⟨_, hl, rfl⟩
  unfold setItem
  try with_reducible refine wpAny_holding ?_
  first | refine wpAny_bind (wpAny_pure ?_) | skip
  refine wpAny_bind (wpAny_sequenceKey hT (by decide) ?_)
  refine wpAny_bind (wpAny_callSpecial?_slot (name := Str.ofString "__setitem__") hT slot_list_setitem
    (wpAny_call_entry slot_list_setitem hT entry_list_setitem ?_ (args_list_setitem _ _ _)))
  show wpAny _ _ (Builtin.List.listSubscript? (.int k t) >>= _) _ _ s
  refine wpAny_bind (wpAny_listSubscript_int (fitsIndex_of h0 hfit) ?_)
  clear hfit
  obtain ⟨j, rfl⟩ := Int.eq_ofNat_of_zero_le h0
  have hj : j < vs.size := by omega
  have hx' : vs[j]? = some vs[j] := Array.getElem?_eq_getElem hj
  show wpAny _ _ ((seqItemAt l j >>= fun r => pure (r.map (j, ·))) >>= _) _ _ s
  refine wpAny_bind (wpAny_bind (wpAny_seqItemAt hl rfl (wpAny_pure ?_)))
  rw [hx']
  show wpAny _ _ (setSeqItemAt l j v >>= _) _ _ s
  refine wpAny_bind (wpAny_setSeqItemAt hl rfl ?_)
  first
    | exact wpAny_bind (wpAny_pure (wpAny_pure ⟨.none, rfl, wpAny_pure hQ⟩))
    | exact wpAny_pure ⟨.none, rfl, wpAny_pure hQ⟩
theorem repL_set {xs : List AV} {vs : List Value} (r : RepL B G xs vs) {x : AV} {v : Value} (rx : Rep B G x v) : ∀ n, RepL B G (xs.set n x) (vs.set n v) := by
  induction xs generalizing vs with
  | nil => intro n; rw [show vs = [] from r]; simp [RepL]
  | cons y xs ih =>
    obtain ⟨u, q, rfl, a, b⟩ := r
    intro n
    cases n with
    | zero => exact ⟨v, _, rfl, rx, b⟩
    | succ n => exact ⟨u, _, rfl, a, ih b n⟩
noncomputable def Does (B : Base) (A : Around) (t : Sem Unit) (G : St) (H' : AH) (s : Shared) : Prop :=
  ∀ (Q : Unit → Shared → Prop) (E : Value → Shared → Prop), (∀ G' h' tk', Step B Pure G s.heap G' h' → Inv B G' H' h' → Q () { s with heap := h', toks := tk' }) → wpAny (model B.prog B.w) A t Q E s
theorem op_setItem {x k y : AV} {v w u : Value} (e : asetI x k y H = some ((), H')) (I : Inv B G H s.heap) (rx : Rep B G x v) (rk : Rep B G k w) (ry : Rep B G y u) : Does B A (setItem v w u) G H' s := by
  obtain ⟨i, hi, e0⟩ := abind_opt e
  clear e
  have hi := toInt_some hi
  subst hi
  refine via fun R_ k_ => ?_
  obtain ⟨⟨n, xs⟩, H1, e1, e2⟩ := abind_some e0
  refine k_ ?_
  clear e0
  obtain ⟨rfl, hH, rfl⟩ := alist_some e1
  obtain ⟨hb, e3⟩ := abind_aif e2
  clear e2
  cases e3
  obtain ⟨t, rfl⟩ := rk
  obtain ⟨p, hp, rfl⟩ := rx
  obtain ⟨e2, vs, n', hg, ra⟩ := I.objs _ _ _ hH hp
  have hsz := size_of ra
  have hu := I.updList (ys := xs.set i.toNat y) (fun vs => vs.setIfInBounds i.toNat u) hH hp e2 hg (by rw [Array.toList_setIfInBounds]; exact repL_set ra ry _)
  intro Q E hQ
  exact setItem_plain hg hb.1 (by omega) (by rw [hsz]; exact hb.2.1) (hQ G _ s.toks hu.2 hu.1)
theorem op_setAttr (K : ClassesOk B) {x y : AV} {v u : Value} {f : Fld} (e : asetA x f y H = some ((), H')) (I : Inv B G H s.heap) (rx : Rep B G x v) (ry : Rep B G y u) : Does B A (setAttr v f.name u) G H' s := by
  refine via fun R_ k_ => ?_
  obtain ⟨⟨i, c, fs⟩, H1, e1, e0⟩ := abind_some e
  refine k_ ?_
  clear e
  obtain ⟨rfl, hH, hc, rfl⟩ := ainst_some e1
  cases e0
  refine via fun R_ k_ => ?_
  obtain ⟨p, hp, rfl⟩ := rx
  obtain ⟨m, Im, hm, hin⟩ := inst_at I hH hp
  obtain ⟨d, m', e2, hg, hns, _⟩ := I.objs _ _ _ hH hp
  obtain ⟨mN, CA⟩ := K c hc
  obtain ⟨cr, hC, hN, hNt⟩ := CA.obj
  refine k_ ?_
  have hC' := I.sub _ _ (I.old _ _ hC CA.tab)
  have hN' := I.ns hNt hN
  have hxC : p.1 ≠ B.clA c := fun q => by rw [q, hC'] at hg; cases hg
  have hin' : Within m (allFlds.map Fld.name) := fun z hz => (hin z hz).elim fun f e => e ▸ List.mem_map_of_mem (mem_flds f)
  refine via fun R_ k_ => ?_
  obtain ⟨hp', g, dw, tk, os⟩ := s
  refine k_ ?_
  intro Q E hQ
  refine store_attr F.store_object hC' hN' CA.sat (CA.fld f) (fld_object f) hxC Im (fun h' tk' I' keep obj => ?_) hin' (by decide)
  obtain ⟨o1, g1, c1, c2, c3, c4⟩ := obj _ hg
  have c5 := c4 d rfl
  have ho1 : o1 = insO (B.clA c) d := by
    clear c4
    cases o1
    cases c1; cases c2; cases c3; cases c5; rfl
  subst ho1
  have hns' : h'.Ns1 d (fun z => if z = f.name then some u else m z) := by
    refine via fun R_ k_ => ?_
    obtain ⟨o, a, _, _, r⟩ := I'
    refine k_ ?_
    rw [g1] at a; cases a
    rcases r with ⟨r, _⟩ | ⟨d', r, _, n⟩
    · cases r
    · cases r; exact n
  have k : ∀ b o, b ∉ adrOf [p] → hp'.get? b = some o → h'.get? b = some o := fun b o hb e => keep b o (fun q => hb (adr_one.mpr (.inl q))) (fun o0 dx a a' q => hb (adr_one.mpr (.inr (by rw [hg] at a; cases a; cases a'; rw [q]; exact e2)))) e
  have live : ∀ a ∈ adrOf [p], ∃ o, h'.get? a = some o := fun a ha => by
    rcases adr_one.mp ha with rfl | ha
    · exact ⟨_, g1⟩
    · rw [e2] at ha; cases ha
      refine via fun R_ k_ => ?_
      obtain ⟨o, _, _, a, _⟩ := hns'
      refine k_ ?_
      exact ⟨o, a⟩
  refine hQ G h' tk' (Step.upd I hp k live) (I.upd hH hp k live ⟨d, _, e2, g1, hns', fun f' => ?_, fun z hz => ?_⟩)
  · show match (if f' = f then some y else fs f') with
      | some av => ∃ v, (if f'.name = f.name then some u else m f'.name) = some v ∧ Rep B G av v
      | none => (if f'.name = f.name then some u else m f'.name) = none
    by_cases hf : f' = f
    · subst hf
      rw [if_pos rfl, if_pos rfl]
      exact ⟨u, rfl, ry⟩
    · rw [if_neg hf, if_neg (fun q => hf (fld_inj q))]
      exact hm f'
  · by_cases hz' : z = f.name
    · exact ⟨f, hz'⟩
    · simp only [hz', if_false] at hz
      exact hin z hz
end
end
section
set_option Elab.async false
set_option autoImplicit false
set_option linter.unusedVariables false
set_option tactic.hygienic false
set_option genSizeOf false
set_option genInjectivity false
open PySem PySem.W PyProof.Rows PySem.Calls
noncomputable def Me.ty : Me → String
  | .append => "list"
  | .pop => "list"
  | .extend => "list"
  | .get => "dict"
noncomputable def Me.id : Me → String
  | .append => "list.append"
  | .pop => "list.pop"
  | .extend => "list.extend"
  | .get => "dict.get"
theorem me_slot (m : Me) : PlainAttrs m.ty ∧ Slot m.ty m.name m.id ∧ typeOf (.builtin m.id) = pure (.type "method_descriptor") := by
  cases m
  · exact ⟨F.plainAttrs_list, F.slot_list_append, F.type_list_append⟩
  · exact ⟨F.plainAttrs_list, F.slot_list_pop, F.type_list_pop⟩
  · exact ⟨F.plainAttrs_list, F.slot_list_extend, F.type_list_extend⟩
  · exact ⟨F.plainAttrs_dict, F.slot_dict_get, F.type_dict_get⟩
section
variable {B : Base} {A : Around} {G : St} {H H' : AH} {s : Shared}
theorem op_mty {m : Me} {x : AV} {v : Value} (e : amty m x H = some ((), H')) (I : Inv B G H s.heap) (rx : Rep B G x v) :
    H' = H ∧ s.TypeIs v m.ty ∧ ∀ a, v = .ref a → ∃ ob, s.heap.get? a = some ob ∧ ob.dict = none := by
  have lst : abind (alist x) (fun q_ => apure ()) H = some ((), H') → H' = H ∧ s.TypeIs v "list" ∧ ∀ a, v = .ref a → ∃ ob, s.heap.get? a = some ob ∧ ob.dict = none := by
    intro e
    refine via fun R_ k_ => ?_
    obtain ⟨⟨n, xs⟩, H1, e1, e0⟩ := abind_some e
    refine k_ ?_
    clear e
    obtain ⟨rfl, hH, rfl⟩ := alist_some e1
    cases e0
    obtain ⟨p, hp, rfl⟩ := rx
    obtain ⟨e2, vs, n', hg, ra⟩ := I.objs _ _ _ hH hp
    exact ⟨rfl, ⟨_, hg, rfl⟩, fun a ea => by cases ea; exact ⟨_, hg, rfl⟩⟩
  cases m with
  | append => exact lst e
  | pop => exact lst e
  | extend => exact lst e
  | get => exact nos e
theorem yields_obj {t : Sem Value} {z : AV} {v : Value} {h' : Heap} (st : Step B Pure G s.heap G h') (I : Inv B G H' h') (r : Rep B G z v)
    (h : ∀ (Q : Value → Shared → Prop) (E : Value → Shared → Prop), (∀ tk, Q v { s with heap := h', toks := tk }) → wpAny (model B.prog B.w) A t Q E s) : Yields B A t G H H' z s := fun Q E hQ =>
  h Q E fun tk => hQ v G h' tk st I r
theorem repL_one {x : AV} {vs : List Value} (r : RepL B G [x] vs) : ∃ v, vs = [v] ∧ Rep B G x v := by
  obtain ⟨v, q, rfl, a, b⟩ := r
  rw [show q = [] from b]
  exact ⟨v, rfl, a⟩
theorem repL_two {x y : AV} {vs : List Value} (r : RepL B G [x, y] vs) : ∃ v w, vs = [v, w] ∧ Rep B G x v ∧ Rep B G y w := by
  obtain ⟨v, q, rfl, a, b⟩ := r
  obtain ⟨w, rfl, c⟩ := repL_one b
  exact ⟨v, w, rfl, a, c⟩
theorem me_append {x y : AV} {xs : List AV} {v u : Value} {n : Nat} (hH : H[n]? = some (.list xs)) (hz : xs.length < 1048576) (I : Inv B G H s.heap) (rx : Rep B G (.obj n) v) (ry : Rep B G y u) :
    Yields B A (call (.builtin "list.append") [v, u]) G H (setObj H n (.list (xs ++ [y]))) .none s := by
  obtain ⟨p, hp, rfl⟩ := rx
  obtain ⟨e2, vs, n', hg, ra⟩ := I.objs _ _ _ hH hp
  have hsz := size_of ra
  have hu := I.updList (ys := xs ++ [y]) (fun vs => vs.push u) hH hp e2 hg (by rw [Array.toList_push]; exact repL_append ra ⟨u, [], rfl, ry, rfl⟩)
  exact yields_obj hu.2 hu.1 rfl fun Q E hQ => call_meets F.slot_list_append ⟨_, hg, rfl⟩ F.entry_list_append (F.args_list_append_2 _ _)
    (AutoListH.list_append_list_val_0 p.1 vs n' u (by rw [hsz, sizeLine_eq]; omega)) ⟨hg, hQ s.toks⟩
theorem me_pop {y : AV} {xs : List AV} {v : Value} {n : Nat} (hH : H[n]? = some (.list xs)) (hy : xs.getLast? = some y) (hz : xs.length ≤ 1048576) (I : Inv B G H s.heap) (rx : Rep B G (.obj n) v) :
    Yields B A (call (.builtin "list.pop") [v]) G H (setObj H n (.list xs.dropLast)) y s := by
  obtain ⟨p, hp, rfl⟩ := rx
  obtain ⟨e2, vs, n', hg, ra⟩ := I.objs _ _ _ hH hp
  have hsz := size_of ra
  have hz' := hz
  rw [List.getLast?_eq_getElem?] at hy
  obtain ⟨u, hu, ry⟩ := repL_get ra _ _ hy
  rw [Array.getElem?_toList, ← hsz] at hu
  have hpos : 0 < xs.length := by
    cases xs with
    | nil => simp at hy
    | cons a r => simp
  have hv : ((vs.eraseIdxIfInBounds (vs.size - 1)).toList) = vs.toList.dropLast := by
    rw [Array.eraseIdxIfInBounds, dif_pos (by omega), Array.toList_eraseIdx, List.dropLast_eq_take, List.eraseIdx_eq_take_drop_succ, Array.length_toList, List.drop_of_length_le (by rw [Array.length_toList]; omega), List.append_nil]
  have hd : RepL B G xs.dropLast vs.toList.dropLast := by
    rw [List.dropLast_eq_take, List.dropLast_eq_take, ra.len]
    exact repL_take ra _
  have hu' := I.updList (ys := xs.dropLast) (fun xs => xs.eraseIdxIfInBounds (vs.size - 1)) hH hp e2 hg (by rw [hv]; exact hd)
  exact yields_obj hu'.2 hu'.1 ry fun Q E hQ => call_meets F.slot_list_pop ⟨_, hg, rfl⟩ F.entry_list_pop (F.args_list_pop_1 _)
    (MeetsSeq.list_pop_last p.1 vs n' u hu (by rw [hsz, sizeLine_eq]; omega)) ⟨hg, hQ s.toks⟩
theorem me_extend {ys : List AV} {xs : List AV} {v u : Value} {n : Nat} (hH : H[n]? = some (.list xs)) (hz' : xs.length + ys.length < 1048576) (I : Inv B G H s.heap) (rx : Rep B G (.obj n) v) (ry : Rep B G (.tup ys) u) :
    Yields B A (call (.builtin "list.extend") [v, u]) G H (setObj H n (.list (xs ++ ys))) .none s := by
  obtain ⟨p, hp, rfl⟩ := rx
  obtain ⟨e2, vs, n', hg, ra⟩ := I.objs _ _ _ hH hp
  obtain ⟨b, ws, k, rfl, gb, rb⟩ := ry
  have hsz := size_of ra
  have hsz2 := size_of rb
  have hu := I.updList (ys := xs ++ ys) (fun vs => vs ++ ws) hH hp e2 hg (by rw [Array.toList_append]; exact repL_append ra rb)
  refine yields_obj hu.2 hu.1 rfl fun Q E hQ => call_meets F.slot_list_extend ⟨_, hg, rfl⟩ F.entry_list_extend (F.args_list_extend_2 _ _)
    (AutoSeq1.list_extend_list_tuple_0 p.1 vs n' b ws k ?_ (by rw [hsz, sizeLine_eq]; omega) (by rw [hsz, hsz2, sizeLine_eq]; omega)) ⟨hg, I.sub _ _ gb, hQ s.toks⟩
  simp [Builtin.List.listTooLong, sizeLine]; omega
theorem ordA_some {cs : List Nat} {c : Nat} (h : ordA cs = some c) : cs = [c] := by
  match cs, h with
  | [_], h => cases h; rfl
  | [], h => exact nos h
  | _ :: _ :: _, h => exact nos h
theorem op_meth {m : Me} {x z : AV} {xs : List AV} {v : Value} {vs : List Value} (e : ame m x xs H = some (z, H')) (I : Inv B G H s.heap) (rx : Rep B G x v) (rs : RepL B G xs vs) :
    Yields B A (call (.builtin m.id) (v :: vs)) G H H' z s := by
  cases m with
  | append =>
    unfold ame at e
    obtain ⟨y, h1, e1⟩ := abind_opt e
    clear e
    have h1 := one_some h1
    subst h1
    refine via fun R_ k_ => ?_
    obtain ⟨⟨n, xs⟩, H1, e2, e3⟩ := abind_some e1
    refine k_ ?_
    clear e1
    obtain ⟨rfl, hH, rfl⟩ := alist_some e2
    obtain ⟨hz, e4⟩ := abind_aif e3
    clear e3
    cases e4
    obtain ⟨u, rfl, ry⟩ := repL_one rs
    exact me_append (x := y) hH hz I rx ry
  | pop =>
    unfold ame at e
    obtain ⟨h1, e1⟩ := abind_aif e
    clear e
    subst h1
    refine via fun R_ k_ => ?_
    obtain ⟨⟨n, xs⟩, H1, e2, e3⟩ := abind_some e1
    refine k_ ?_
    clear e1
    obtain ⟨rfl, hH, rfl⟩ := alist_some e2
    obtain ⟨y, hy, e4⟩ := abind_opt e3
    clear e3
    obtain ⟨hz, e5⟩ := abind_aif e4
    clear e4
    cases e5
    rw [show vs = [] from rs]
    exact me_pop hH hy hz I rx
  | extend =>
    unfold ame at e
    obtain ⟨y, h1, e1⟩ := abind_opt e
    clear e
    have h1 := one_some h1
    subst h1
    obtain ⟨ys, h2, e2⟩ := abind_opt e1
    clear e1
    have h2 := toTup_some h2
    subst h2
    refine via fun R_ k_ => ?_
    obtain ⟨⟨n, xs⟩, H1, e3, e4⟩ := abind_some e2
    refine k_ ?_
    clear e2
    obtain ⟨rfl, hH, rfl⟩ := alist_some e3
    obtain ⟨hz, e5⟩ := abind_aif e4
    clear e4
    cases e5
    obtain ⟨u, rfl, ry⟩ := repL_one rs
    exact me_extend hH hz I rx ry
  | get => exact nos e
end
end
section
set_option Elab.async false
set_option autoImplicit false
set_option linter.unusedVariables false
set_option tactic.hygienic false
set_option genSizeOf false
set_option genInjectivity false
open PySem PySem.W PyProof.Rows PySem.Calls
section
variable {B : Base} {G : St} {H : AH} {h h' : Heap}
theorem Inv.fresh (I : Inv B G H h) {a : Addr} {o : Obj} (k : ∀ b o, h.get? b = some o → h'.get? b = some o) (n : h.get? a = none) (e : h'.get? a = some o) : Inv B (G.put a o) H h' := by
  refine (I.keeps fun b o q_ e => k b o e).freeze e (fun m => ?_) (fun m => ?_) fun o' q => ?_
  · obtain ⟨_, _, o, q⟩ := I.off a m
    rw [n] at q; cases q
  · exact nomatch m
  · have := I.sub _ _ q
    rw [n] at this; cases this
set_option tactic.hygienic true in
theorem Step.fresh (I : Inv B G H h) {a : Addr} {o : Obj} (k : ∀ b o, h.get? b = some o → h'.get? b = some o) (n : h.get? a = none) : Step B Pure G h (G.put a o) h' where
  live := fun b o q_ e => ⟨o, k b o e⟩
  mono := fun b o' e => by
    simp only [St.put]
    split
    · rename_i q; subst q
      have := I.sub _ _ e
      rw [n] at this; cases this
    · exact e
  ext := fun b o' hb q_ => by
    simp only [St.put]
    rw [if_neg (fun q => by rw [q, n] at hb; cases hb)]
  al := ⟨[], (List.append_nil _).symm, fun q_ hm => nomatch hm⟩
  keep := fun b o' q_ q_ q_ e => k b o' e
end
section
variable {B : Base} {A : Around} {G : St} {H H' : AH} {s : Shared}
theorem int_if (b : Bool) : (if b then (1 : Int) else 0) = if b = true then 1 else 0 := rfl
theorem boolsAre : ∀ {xs : List AV} {l : List Bool} {vs : List Value}, bools? xs = some l → RepL B G xs vs → vs = l.map Value.bool
  | [], l, vs, e, r => by cases e; exact r
  | x :: xs, l, vs, e, r => by
    obtain ⟨v, q, rfl, a, b⟩ := r
    cases x with
    | bool i =>
      simp only [bools?, Option.map_eq_some_iff] at e
      obtain ⟨k, e, rfl⟩ := e
      rw [show v = _ from a, boolsAre e b]; rfl
    | _ => cases e
theorem range_any (l : List Bool) : ((List.range l.length).any fun i => l.getD i false) = l.any id := by
  rw [Bool.eq_iff_iff, List.any_eq_true, List.any_eq_true]
  constructor
  · rintro ⟨i, hi, h⟩
    rw [List.mem_range] at hi
    refine ⟨l.getD i false, ?_, h⟩
    rw [List.getD_eq_getElem?_getD, List.getElem?_eq_getElem hi]
    exact List.getElem_mem hi
  · rintro ⟨b, hb, h⟩
    obtain ⟨i, hi, rfl⟩ := List.mem_iff_getElem.mp hb
    refine ⟨i, List.mem_range.mpr hi, ?_⟩
    rw [List.getD_eq_getElem?_getD, List.getElem?_eq_getElem hi]
    exact h
theorem bi_len {x : AV} {n : Nat} {v : Value} (e : lenA H x = some n) (hz : n ≤ 1048576) (I : Inv B G H s.heap) (r : Rep B G x v) : Yields B A (call Bi.len.val [v]) G H H (.int n) s := by
  cases x with
  | tup xs =>
    cases e
    obtain ⟨a, ws, rfl, ha, ra⟩ := isTup I r
    have := size_of ra
    exact yields_int I fun Q E hQ => PyProof.Rows.len_tuple ha (by omega) (by rw [this]; exact hQ _ _)
  | lst xs =>
    cases e
    obtain ⟨a, ws, rfl, ha, ra⟩ := isLst I r
    have := size_of ra
    exact yields_int I fun Q E hQ => PyProof.Rows.len_list ha (by omega) (by rw [this]; exact hQ _ _)
  | str cs =>
    cases e
    obtain ⟨t, rfl⟩ := r
    have := toS_length cs
    exact yields_int I fun Q E hQ => PyProof.Rows.len_str (by omega) (by rw [this]; exact hQ _ _)
  | obj k =>
    obtain ⟨xs, hH, rfl⟩ := map_some (o := listAt H k) e
    obtain ⟨p, hp, rfl⟩ := r
    obtain ⟨e2, ws, n', hg, ra⟩ := I.objs _ _ _ (listAt_some hH) hp
    have := size_of ra
    exact yields_int I fun Q E hQ => PyProof.Rows.len_list ⟨_, hg, rfl, n', rfl⟩ (by omega) (by rw [this]; exact hQ _ _)
  | _ => exact nos e
theorem bi_int {x : AV} {i : Int} {v : Value} (e : intA x = some i) (I : Inv B G H s.heap) (r : Rep B G x v) : Yields B A (call Bi.int.val [v]) G H H (.int i) s := by
  cases x with
  | int i =>
    cases e
    obtain ⟨t, rfl⟩ := r
    exact yields_int I fun Q E hQ => call_int_int (hQ _ _)
  | bool b =>
    cases e
    rw [show v = _ from r]
    exact yields_int I fun Q E hQ => call_int_bool (hQ _ _)
  | _ => exact nos e
theorem bi_any {xs : List AV} {l : List Bool} {v : Value} (e' : bools? xs = some l) (hA : A.handled = none) (I : Inv B G H s.heap) (r : Rep B G (.lst xs) v) : Yields B A (call Bi.any.val [v]) G H H (.bool (l.any id)) s := by
  obtain ⟨a, ws, rfl, ha, ra⟩ := isLst I r
  have hw := boolsAre e' ra
  have hsz : ws.size = l.length := by rw [← Array.length_toList, hw, List.length_map]
  intro Q E hQ
  have hne : a ≠ s.heap.objs.size := fun q => by
    obtain ⟨o, ho, _⟩ := ha
    rw [q] at ho
    exact absurd (Heap.lt_size ho) (Nat.lt_irrefl _)
  have W := Walks.list (prog := B.prog) (w := B.w) (A := A.in1) hA s.heap.objs.size a hne ws
  refine call_any_walk (wpAny_pyIter_list ha ⟨_, _, _, _, _, _, fun i => l.getD i false, rfl, W, ⟨?_, ?_⟩, ?_, ?_⟩)
  · exact ⟨_, Heap.get?_push_size _ rfl, rfl, rfl⟩
  · obtain ⟨o, ho, r⟩ := ha
    exact ⟨o, Heap.get?_push_of_some _ ho, r⟩
  · intro i v s' Q' E' hi hq
    rw [← Array.getElem?_toList, hw, List.getElem?_map] at hi
    cases hl : l[i]? with
    | none => rw [hl] at hi; cases hi
    | some b =>
      rw [hl] at hi; cases hi
      have : l.getD i false = b := by rw [List.getD_eq_getElem?_getD, hl]; rfl
      exact wpAny_truthy_bool (by rw [← this]; exact hq)
  · intro h' tk k
    rw [hsz, range_any]
    have k' : ∀ b o, s.heap.get? b = some o → h'.get? b = some o := fun b o e => k b o (fun q => by
      rw [List.mem_singleton] at q
      rw [q] at e
      exact absurd (Heap.lt_size e) (Nat.lt_irrefl _)) (Heap.get?_push_of_some _ e)
    exact hQ _ _ _ _ (Step.priv k') (I.keeps fun b o q_ e => k' b o e) rfl
theorem isTupleTy_some {x : AV} (h : isTupleTy x = true) : x = .bi .tuple := by
  cases x with
  | bi b => cases b with
    | tuple => rfl
    | _ => exact bad h
  | _ => exact bad h
theorem bi_isi {x : AV} {b : Bool} {v : Value} (e : isTupA x = some b) (I : Inv B G H s.heap) (r : Rep B G x v) : Yields B A (call Bi.isinstance.val [v, Bi.tuple.val]) G H H (.bool b) s := by
  cases x with
  | tup xs =>
    cases e
    obtain ⟨a, ws, n, rfl, g, _⟩ := r
    exact yields_bool I fun Q E hQ => IsiPair.tuple_tuple (I.sub _ _ g) rfl (hQ _)
  | none =>
    cases e
    rw [show v = _ from r]
    exact yields_bool I fun Q E hQ => IsiPair.NoneType_tuple (hQ _)
  | bool b =>
    cases e
    rw [show v = _ from r]
    exact yields_bool I fun Q E hQ => IsiPair.bool_tuple (hQ _)
  | int i =>
    cases e
    obtain ⟨t, rfl⟩ := r
    exact yields_bool I fun Q E hQ => IsiPair.int_tuple (hQ _)
  | str cs =>
    cases e
    obtain ⟨t, rfl⟩ := r
    exact yields_bool I fun Q E hQ => IsiPair.str_tuple (hQ _)
  | _ => exact nos e
theorem bi_list {xs : List AV} {v : Value} (hz : xs.length ≤ 1048576) (I : Inv B G H s.heap) (r : Rep B G (.tup xs) v) : Yields B A (call Bi.list.val [v]) G H H (.lst xs) s := by
  obtain ⟨a, ws, n, rfl, g, ra⟩ := r
  have hsz := size_of ra
  intro Q E hQ
  refine call_list_seq a (.inr rfl) (I.sub _ _ g) rfl rfl (fun h' c' k hg => ?_) (by rw [hsz, sizeLine_eq]; omega)
  have st := Step.fresh (h' := h') I (a := s.heap.objs.size) (o := lstO ws c') k (Heap.get?_end _)
  exact hQ _ _ _ s.toks st (I.fresh k (Heap.get?_end _) hg) ⟨_, ws, c', rfl, St.put_at .., st.repL ra⟩
theorem bi_tuple {xs : List AV} {v : Value} (hz : xs.length ≤ 1048576) (I : Inv B G H s.heap) (r : Rep B G (.lst xs) v) : Yields B A (call Bi.tuple.val [v]) G H H (.tup xs) s := by
  obtain ⟨a, ws, rfl, ha, ra⟩ := isLst I r
  have hsz := size_of ra
  intro Q E hQ
  refine call_tuple_list ha (fun h' k => ?_) (by rw [hsz, sizeLine_eq]; omega)
  have I' : Inv B G H h' := I.keeps fun b o q_ e => k b o e
  have st := (Step.priv (B := B) (G := G) k).trans (Step.alloc I' (tplO ws 0))
  exact hQ _ _ _ s.toks st (I'.alloc _ rfl) ⟨_, ws, 0, rfl, St.put_at .., st.repL ra⟩
set_option tactic.hygienic true in
theorem op_bi {b : Bi} {xs : List AV} {z : AV} {vs : List Value} (e : abi H b xs = some z) (hA : A.handled = none) (I : Inv B G H s.heap) (rs : RepL B G xs vs) : Yields B A (call b.val vs) G H H z s := by
  have one1 : ∀ {f : AV → Option AV}, (one xs).bind f = some z → ∃ x v, vs = [v] ∧ Rep B G x v ∧ f x = some z := fun {f} e => by
    obtain ⟨x, h1, e1⟩ := bind_some e
    have h1 := one_some h1
    subst h1
    obtain ⟨v, rfl, r⟩ := repL_one rs
    exact ⟨x, v, rfl, r, e1⟩
  cases b with
  | len =>
    obtain ⟨x, v, rfl, r, e1⟩ := one1 e
    obtain ⟨n, h2, e2⟩ := bind_some e1
    obtain ⟨hz, rfl⟩ := aif_some e2
    exact bi_len h2 hz I r
  | abs =>
    obtain ⟨x, v, rfl, r, e1⟩ := one1 e
    obtain ⟨i, h2, rfl⟩ := map_some e1
    have h2 := toInt_some h2
    subst h2
    obtain ⟨t, rfl⟩ := r
    have q : (if i < 0 then -i else i) = (i.natAbs : Int) := by split <;> omega
    exact yields_int I fun Q E hQ => call_abs_int (by rw [q]; exact hQ)
  | int =>
    obtain ⟨x, v, rfl, r, e1⟩ := one1 e
    obtain ⟨i, h2, rfl⟩ := map_some e1
    exact bi_int h2 I r
  | ord =>
    obtain ⟨x, v, rfl, r, e1⟩ := one1 e
    obtain ⟨cs, h2, e2⟩ := bind_some e1
    obtain ⟨c, h3, rfl⟩ := map_some e2
    have h2 := toStr_some h2
    subst h2
    have h3 := ordA_some h3
    subst h3
    obtain ⟨t, rfl⟩ := r
    exact yields_int I fun Q E hQ => P.ord_of_char (hQ _ _)
  | chr =>
    obtain ⟨x, v, rfl, r, e1⟩ := one1 e
    obtain ⟨i, h2, e2⟩ := bind_some e1
    obtain ⟨hb, rfl⟩ := aif_some e2
    have h2 := toInt_some h2
    subst h2
    obtain ⟨t, rfl⟩ := r
    exact yields_str I fun Q E hQ => P.chr_of_int (by rw [Bool.or_eq_false_iff]; exact ⟨decide_eq_false (by omega), decide_eq_false (by omega)⟩) (hQ _ _)
  | any =>
    obtain ⟨x, v, rfl, r, e1⟩ := one1 e
    obtain ⟨l, h2, e2⟩ := bind_some e1
    obtain ⟨bs, h3, rfl⟩ := map_some e2
    have h2 := toLst_some h2
    subst h2
    exact bi_any h3 hA I r
  | isinstance =>
    obtain ⟨⟨x, y⟩, h1, e1⟩ := bind_some (o := two xs) e
    have h1 := two_some h1
    subst h1
    obtain ⟨u, h2, e2⟩ := bind_some e1
    obtain ⟨h2, _⟩ := aif_some h2
    obtain ⟨b, h3, rfl⟩ := map_some e2
    obtain ⟨v, w, rfl, r, r'⟩ := repL_two rs
    have h2 := isTupleTy_some h2
    change y = _ at h2
    subst h2
    rw [show w = _ from r']
    exact bi_isi h3 I r
  | list =>
    obtain ⟨x, v, rfl, r, e1⟩ := one1 e
    obtain ⟨l, h2, e2⟩ := bind_some e1
    obtain ⟨hz, rfl⟩ := aif_some e2
    have h2 := toTup_some h2
    subst h2
    exact bi_list hz I r
  | tuple =>
    obtain ⟨x, v, rfl, r, e1⟩ := one1 e
    obtain ⟨l, h2, e2⟩ := bind_some e1
    obtain ⟨hz, rfl⟩ := aif_some e2
    have h2 := toLst_some h2
    subst h2
    exact bi_tuple hz I r
  | min =>
    obtain ⟨⟨x, y⟩, h1, e1⟩ := bind_some (o := two xs) e
    have h1 := two_some h1
    subst h1
    obtain ⟨a, h2, e2⟩ := bind_some e1
    obtain ⟨b, h3, rfl⟩ := map_some e2
    obtain ⟨v, w, rfl, r, r'⟩ := repL_two rs
    have h4 : x = .int a := toInt_some h2
    have h5 : y = .int b := toInt_some h3
    clear h2 h3 e1 e2 e
    subst h4; subst h5
    obtain ⟨t, rfl⟩ := r
    obtain ⟨u, rfl⟩ := r'
    intro Q E hQ
    refine min_two_ints hA fun h' tk k => ?_
    split
    · rename_i hl
      exact hQ _ _ _ _ (Step.priv k) (I.keeps fun b o q_ e => k b o e) ⟨_, by rw [if_pos hl]⟩
    · rename_i hl
      exact hQ _ _ _ _ (Step.priv k) (I.keeps fun b o q_ e => k b o e) ⟨_, by rw [if_neg hl]⟩
  | _ => exact nos e
end
end
section
set_option Elab.async false
set_option autoImplicit false
set_option linter.unusedVariables false
set_option tactic.hygienic false
set_option genSizeOf false
set_option genInjectivity false
open PySem PySem.W PyProof.Rows PySem.Calls
theorem zip_look : ∀ (ps : List Str) (vs : List Value), ps.length = vs.length → ∀ x ∈ ps, ((ps.zip vs).lookup x).isNone = false
  | [], _, _, x, h => by cases h
  | p :: ps, [], e, _, _ => by cases e
  | p :: ps, v :: vs, e, x, h => by
    rw [List.zip_cons_cons, List.lookup_cons]
    cases q : (x == p) with
    | true => rfl
    | false =>
      have : x ∈ ps := by
        rcases List.mem_cons.mp h with rfl | h
        · simp at q
        · exact h
      exact zip_look ps vs (by simpa using e) x this
theorem zip_pick : ∀ (ps : List Str) (vs : List Value), ps.length = vs.length → ps.Nodup → ∀ (qs : List (Str × Value)), (∀ x ∈ ps, qs.lookup x = (ps.zip vs).lookup x) → ps.filterMap (fun n => (qs.lookup n).map fun v => (n, v)) = ps.zip vs
  | [], _, _, _, _, _ => by simp
  | p :: ps, [], e, _, _, _ => by cases e
  | p :: ps, v :: vs, e, hn, qs, hq => by
    have h0 := hq p (by simp)
    rw [List.zip_cons_cons, List.lookup_cons, beq_self_eq_true] at h0
    rw [List.zip_cons_cons, List.filterMap_cons, h0]
    show (p, v) :: _ = _
    congr 1
    rw [List.nodup_cons] at hn
    refine zip_pick ps vs (by simpa using e) hn.2 qs fun x hx => ?_
    have := hq x (List.mem_cons_of_mem _ hx)
    rw [List.zip_cons_cons, List.lookup_cons] at this
    have ne : (x == p) = false := by
      rw [beq_eq_false_iff_ne]; intro q; subst q; exact hn.1 hx
    rw [ne] at this
    exact this
theorem bind_core {fd : FuncData} {as : List Arg} {vs : List Value} {ps : List Str} (h0 : fd.params = ⟨[], as, none, [], [], none, []⟩) (hd : fd.defaults = .none) (hn : ([] : List Str) ++ as.map (·.arg) = ps)
   (hl : vs.length = ps.length) (hnd : ps.Nodup) :
    bindArgs fd ⟨vs, []⟩ = pure (ps.zip vs) := by
  unfold bindArgs
  rw [h0, hd]
  refine (if_neg (fun q => ?_)).trans ?_
  · change (decide (vs.length > (([] : List Str) ++ as.map (·.arg)).length) && true) = true at q
    rw [hn, hl] at q
    exact absurd (of_decide_eq_true ((Bool.and_eq_true _ _).mp q).1) (Nat.lt_irrefl _)
  rw [show ∀ k, List.drop k ((none : Option (Array Value)).getD #[]).toList = [] from fun k => List.drop_nil, List.zip_nil_right]
  refine (if_neg (fun q => ?_)).trans ?_
  · change (!((((([] : List Str) ++ as.map (·.arg)).take ((([] : List Str) ++ as.map (·.arg)).length - 0)).filter fun n => (((([] : List Str) ++ as.map (·.arg)).zip vs).lookup n).isNone)).isEmpty) = true at q
    rw [hn, List.filter_eq_nil_iff.mpr fun x hx => by rw [zip_look ps vs hl.symm x (List.mem_of_mem_take hx)]; exact Bool.noConfusion] at q
    cases q
  change (pure (((([] : List Str) ++ as.map (fun x : Arg => x.arg)) ++ []).filterMap fun n : Str => (((([] : List Str) ++ as.map (fun x : Arg => x.arg)).zip vs).lookup n).map fun v => (n, v)) : Sem (List (Str × Value))) = _
  rw [hn, List.append_nil, zip_pick ps vs hl.symm hnd _ fun q_ q_ => rfl]
theorem bind_plain {fd : FuncData} {ps : List (List Nat)} {vs : List Value} (hp : plainArgs fd.params ps = true) (hd : fd.defaults = .none) (hk : fd.kwdefaults = .none) (hl : vs.length = ps.length) (hnd : ps.Nodup) :
    bindArgs fd ⟨vs, []⟩ = pure ((ps.map toS).zip vs) := by
  have b {a b : Bool} (h : (a && b) = true) := (Bool.and_eq_true a b).mp h
  have h8 := b hp
  have h7 := b h8.1
  have h6 := b h7.1
  have h5 := b h6.1
  have h4 := b h5.1
  have h3 := b h4.1
  have h2 := b h3.1
  have e : ([] : List Str) ++ fd.params.args.map (·.arg) = ps.map toS := by
    rw [← of_decide_eq_true h7.2, List.map_map]
    rfl
  refine bind_core (as := fd.params.args) ?_ hd e (hl.trans (List.length_map _).symm) (List.Pairwise.map toS (fun a b (q : a ≠ b) q' => q (toS_inj.mp q')) hnd)
  have a1 := List.isEmpty_iff.mp h2.1
  have a2 := Option.isNone_iff_eq_none.mp h2.2
  have a3 := List.isEmpty_iff.mp h3.2
  have a4 := List.isEmpty_iff.mp h4.2
  have a5 := Option.isNone_iff_eq_none.mp h5.2
  have a6 := List.isEmpty_iff.mp h6.2
  generalize fd.params = p at a1 a2 a3 a4 a5 a6 ⊢
  refine via fun R_ k_ => ?_
  obtain ⟨x1, x2, x3, x4, x5, x6, x7⟩ := p
  refine k_ ?_
  cases a1; cases a2; cases a3; cases a4; cases a5; cases a6
  rfl
end
section
set_option Elab.async false
set_option autoImplicit false
set_option linter.unusedVariables false
set_option tactic.hygienic false
set_option genSizeOf false
set_option genInjectivity false
open PySem PySem.W PyProof.Rows PySem.Calls
theorem lookup_of_mem {K V : Type} [BEq K] [LawfulBEq K] : ∀ {l : List (K × V)}, (l.map (·.1)).Nodup → ∀ {p : K} {v : V}, (p, v) ∈ l → l.lookup p = some v
  | [], _, _, _, h => by cases h
  | (q, w) :: l, hn, p, v, h => by
    rw [List.map_cons, List.nodup_cons] at hn
    rw [List.lookup_cons]
    rcases List.mem_cons.mp h with e | h
    · cases e; rw [beq_self_eq_true]
    · have ne : (p == q) = false := by
        rw [beq_eq_false_iff_ne]; intro e
        have hm : p ∈ l.map (·.1) := List.mem_map.mpr ⟨_, h, rfl⟩
        rw [e] at hm
        exact hn.1 hm
      rw [ne]
      exact lookup_of_mem hn.2 h
theorem mem_of_lookup {K V : Type} [BEq K] [LawfulBEq K] : ∀ {l : List (K × V)} {p : K} {v : V}, l.lookup p = some v → (p, v) ∈ l
  | [], _, _, h => by cases h
  | (q, w) :: l, p, v, h => by
    rw [List.lookup_cons] at h
    cases e : (p == q) with
    | true =>
      rw [e] at h; cases h
      rw [beq_iff_eq] at e; subst e
      exact List.mem_cons_self
    | false =>
      rw [e] at h
      exact List.mem_cons_of_mem _ (mem_of_lookup h)
theorem zip_keys {ps : List Str} {vs : List Value} (h : vs.length = ps.length) : (ps.zip vs).map (·.1) = ps := by
  rw [List.map_fst_zip]; omega
theorem zip_lookup {ps : List Str} {vs : List Value} (h : vs.length = ps.length) (hn : ps.Nodup) {i : Nat} {p : Str} {v : Value} (hp : ps[i]? = some p) (hv : vs[i]? = some v) :
    (ps.zip vs).reverse.lookup p = some v := by
  refine lookup_of_mem ?_ ?_
  · rw [List.map_reverse, zip_keys h]
    exact List.pairwise_reverse.mpr (List.Pairwise.imp (fun h => Ne.symm h) hn)
  · rw [List.mem_reverse]
    refine List.mem_of_getElem? (i := i) ?_
    rw [List.getElem?_zip_eq_some]
    exact ⟨hp, hv⟩
theorem putCaps_len : ∀ (caps : List (Nat × AV)) (F : AF), (putCaps F caps).length = F.length
  | [], F => rfl
  | (i, v) :: r, F => by
    show (putCaps (F.set i (some v)) r).length = _
    rw [putCaps_len r, List.length_set]
theorem putCaps_other : ∀ (caps : List (Nat × AV)) (F : AF) (i : Nat), (∀ c ∈ caps, c.1 ≠ i) → (putCaps F caps)[i]? = F[i]?
  | [], F, i, _ => rfl
  | (j, v) :: r, F, i, h => by
    show (putCaps (F.set j (some v)) r)[i]? = _
    rw [putCaps_other r _ i fun c hc => h c (List.mem_cons_of_mem _ hc), List.getElem?_set_ne (h (j, v) List.mem_cons_self)]
theorem putCaps_at : ∀ (caps : List (Nat × AV)) (F : AF) (i : Nat), i < F.length → (∃ c ∈ caps, c.1 = i) → ∃ v, (i, v) ∈ caps ∧ (putCaps F caps)[i]? = some (some v)
  | [], F, i, _, h => by obtain ⟨c, hc, _⟩ := h; cases hc
  | (j, v) :: r, F, i, hi, h => by
    by_cases hr : ∃ c ∈ r, c.1 = i
    · obtain ⟨w, hw, e⟩ := putCaps_at r (F.set j (some v)) i (by rw [List.length_set]; exact hi) hr
      exact ⟨w, List.mem_cons_of_mem _ hw, e⟩
    · obtain ⟨c, hc, e⟩ := h
      rcases List.mem_cons.mp hc with rfl | hc
      · simp only at e; subst e
        refine ⟨v, List.mem_cons_self, ?_⟩
        show (putCaps (F.set j (some v)) r)[j]? = _
        rw [putCaps_other r _ j fun c hc q => hr ⟨c, hc, q⟩, List.getElem?_set_self hi]
      · exact absurd ⟨c, hc, e⟩ hr
theorem isKind_iff {sc : Scope} {x : Str} {k : NameKind} : isKind sc x k = true ↔ sc.names.lookup x = some k := by
  unfold isKind
  simp
section
variable {B : Base} {G : St} {H : AH} {s : Shared}
theorem repC_at {names : List (List Nat)} {cl : List (Str × Addr)} : ∀ {caps : List (Nat × AV)}, RepC B G names cl caps → ∀ p ∈ caps, ∃ n c o v, names[p.1]? = some n ∧ cl.lookup (toS n) = some c ∧ G.g c = some o ∧ o.data = .cell (some v) ∧ Rep B G p.2 v
  | [], _, p, hp => by cases hp
  | q :: r, ⟨h1, h2⟩, p, hp => by
    rcases List.mem_cons.mp hp with rfl | hp
    · exact h1
    · exact repC_at h2 p hp
theorem nodup_at {α : Type} {l : List α} (h : l.Nodup) {i j : Nat} {x : α} (a : l[i]? = some x) (b : l[j]? = some x) : i = j := by
  obtain ⟨hi, ei⟩ := List.getElem?_eq_some_iff.mp a
  obtain ⟨hj, ej⟩ := List.getElem?_eq_some_iff.mp b
  have pw := List.pairwise_iff_getElem.mp h
  rcases Nat.lt_trichotomy i j with q | q | q
  · exact absurd (ei.trans ej.symm) (pw i j hi hj q)
  · exact q
  · exact absurd (ej.trans ei.symm) (pw j i hj hi q)
structure ScopeOk (sc : Scope) (names : List (List Nat)) : Prop where
  kind : sc.kind = .function
  gen : sc.isGenerator = false
  co : sc.isCoroutine = false
  nod : names.Nodup
  keys : (sc.names.map (·.1)).Nodup
  inf : ∀ n ∈ names, inFrame sc (toS n) = true
theorem scopeOk_iff {sc : Scope} {names : List (List Nat)} (h : scopeOk sc names = true) : ScopeOk sc names := by
  unfold scopeOk at h
  simp only [Bool.and_eq_true, decide_eq_true_eq, List.all_eq_true, Bool.not_eq_true'] at h
  refine via fun R_ k_ => ?_
  obtain ⟨⟨⟨⟨⟨h1, h2⟩, h3⟩, h4⟩, h5⟩, h6⟩ := h
  refine k_ ?_
  exact ⟨by simpa using h1, h2, h3, h4, h5, h6⟩
theorem frame_some {names np : Nat} {args : List AV} {caps : List (Nat × AV)} {F : AF} (e : frameOf names np args caps = some F) :
    args.length = np ∧ F = putCaps ((args.map some) ++ List.replicate (names - np) none) caps := by
  unfold frameOf at e
  split at e
  · cases e; exact ⟨by assumption, rfl⟩
  · cases e
end
end
section
set_option Elab.async false
set_option autoImplicit false
set_option linter.unusedVariables false
set_option tactic.hygienic false
set_option genSizeOf false
set_option genInjectivity false
open PySem PySem.W PyProof.Rows PySem.Calls
theorem set_some {F : AF} {i j : Nat} {x : Option AV} {y : Option AV} (h : (F.set i x)[j]? = some y) : (i = j ∧ y = x) ∨ (i ≠ j ∧ F[j]? = some y) := by
  by_cases e : i = j
  · subst e
    have hi : i < F.length := by
      have := (List.getElem?_eq_some_iff.mp h).1
      rwa [List.length_set] at this
    rw [List.getElem?_set_self hi] at h; cases h
    exact .inl ⟨rfl, rfl⟩
  · rw [List.getElem?_set_ne e] at h
    exact .inr ⟨e, h⟩
section
variable {B : Base} {A : Around} {T : Tabs} {sc : Scope} {ns : List (List Nat)} {env : Env} {F : AF} {G : St} {H : AH} {s : Shared}
theorem FrOK.own_free (P : FrOK B T sc ns env F G s.heap) (I : Inv B G H s.heap) {a : Addr} (h : a = env.locals) : G.g a = none ∧ a ∉ G.adr ∧ a ∉ B.tabP := by
  subst h; exact ⟨P.lg, P.la, P.lt⟩
set_option tactic.hygienic true in
theorem store_name (P : FrOK B T sc ns env F G s.heap) (I : Inv B G H s.heap) {i : Nat} {n : List Nat} {c : Bool} {x : AV} {v : Value} (hn : ns[i]? = some n) (hk : isKind sc (toS n) (if c then .cell else .local) = true)
    (hc : c = true → F[i]?.join = none) (rx : Rep B G x v) {Q : Unit → Shared → Prop} {E : Value → Shared → Prop}
    (hQ : ∀ G' h' tk', Step B (Own sc env) G s.heap G' h' → Inv B G' H h' → FrOK B T sc ns env (F.set i (some x)) G' h' → Q () { s with heap := h', toks := tk' }) :
    wpAny (model B.prog B.w) A (storeName env (toS n) v) Q E s := by
  have hi : i < F.length := by rw [P.len]; exact (List.getElem?_eq_some_iff.mp hn).1
  have nameOf : ∀ {j : Nat} {n' : List Nat}, ns[j]? = some n' → toS n' = toS n → j = i := fun hj e => by
    rw [toS_inj] at e; subst e; exact nodup_at P.nod hj hn
  cases c with
  | false =>
    simp only [Bool.false_eq_true, if_false] at hk
    obtain ⟨m, hm, hl⟩ := P.loc
    have hp : (env.scope.kind == .class || (env.scope.kind == .module && env.locals != env.globals)) = false := by rw [P.kind]; rfl
    refine wpAny_storeName_local (P.kl _ hk) hm (fun h' hns sb => ?_) hp
    have k : ∀ b o, b ≠ env.locals → s.heap.get? b = some o → h'.get? b = some o := fun b o hb e => by rw [sb.2 b hb]; exact e
    have st : Step B (Own sc env) G s.heap G h' := by
      refine ⟨fun b o q_ e => ?_, fun q_ q_ e => e, fun q_ q_ q_ q_ => rfl, ⟨[], (List.append_nil _).symm, fun q_ hm => (List.not_mem_nil hm).elim⟩, fun b o hb q_ q_ e => k b o (fun q => hb (.inl q)) e⟩
      by_cases hb : b = env.locals
      · subst hb
        refine via fun R_ k_ => ?_
        obtain ⟨o, _, _, e, _⟩ := hns
        refine k_ ?_
        exact ⟨o, e⟩
      · exact ⟨o, k b o hb e⟩
    have I' : Inv B G H h' := I.keeps fun b o hb e => k b o (fun q => by
      subst q
      rcases hb with hb | hb | hb
      · rw [P.lg] at hb; cases hb
      · exact P.la hb
      · exact P.lt hb) e
    refine hQ G h' _ st I' ⟨P.tg, P.tm, P.kl, P.kc, P.kf, P.kg, P.kind, P.glb, P.blt, P.nod, by rw [List.length_set]; exact P.len, P.lg, P.la, P.lt, ⟨_, hns, fun j n' hj hj' w hw => ?_⟩, fun j n' hj hj' => ?_, fun a ha => (by
      obtain ⟨o, e⟩ := P.own a ha
      by_cases hb : a = env.locals
      · subst hb
        refine via fun R_ k_ => ?_
        obtain ⟨o, _, _, e, _⟩ := hns
        refine k_ ?_
        exact ⟨o, e⟩
      · exact ⟨o, k _ _ hb e⟩), P.apart⟩
    · rcases set_some hw with ⟨e, e'⟩ | ⟨e, e'⟩
      · subst e; cases e'
        rw [hn] at hj; cases hj
        exact ⟨v, if_pos rfl, rx⟩
      · obtain ⟨u, a, b⟩ := hl j n' hj hj' w e'
        refine ⟨u, ?_, b⟩
        show (if toS n' = toS n then some v else m (toS n')) = some u
        rw [if_neg (fun q => e (nameOf hj q).symm)]
        exact a
    · obtain ⟨cc, a, b⟩ := P.cel j n' hj hj'
      refine ⟨cc, a, ?_⟩
      have hij : i ≠ j := fun q => by
        subst q
        rw [hn] at hj; cases hj
        rcases hj' with q | q <;> (rw [isKind_iff] at hk q; rw [hk] at q; cases q)
      rw [List.getElem?_set_ne hij]
      revert b
      cases F[j]? with
      | none => exact fun ⟨b1, ⟨o, b2, b3⟩, b4, b5, b6, b7⟩ => ⟨b1, ⟨o, k _ _ b7 b2, b3⟩, b4, b5, b6, b7⟩
      | some z =>
        cases z with
        | none => exact fun ⟨b1, ⟨o, b2, b3⟩, b4, b5, b6, b7⟩ => ⟨b1, ⟨o, k _ _ b7 b2, b3⟩, b4, b5, b6, b7⟩
        | some z => exact fun b => b
  | true =>
    simp only [if_true] at hk
    refine via fun R_ k_ => ?_
    obtain ⟨cc, hcc, hq⟩ := P.cel i n hn (.inl hk)
    have hq : isKind sc (toS n) .cell = true ∧ (∃ o, s.heap.get? cc = some o ∧ o.data = .cell none) ∧ G.g cc = none ∧ cc ∉ G.adr ∧ cc ∉ B.tabP ∧ cc ≠ env.locals := by
      have := hc rfl
      revert hq
      cases hF : F[i]? with
      | none => exact fun q => q
      | some z =>
        rw [hF] at this
        cases z with
        | none => exact fun q => q
        | some z => cases this
    obtain ⟨_, hce, hg, hadr, htab, hloc⟩ := hq
    refine k_ ?_
    refine wpAny_storeName_cell P.kind (P.kc _ hk) hcc hce fun h' hce' sb => ?_
    obtain ⟨o, ho, hd⟩ := hce'
    have k : ∀ b o, b ≠ cc → s.heap.get? b = some o → h'.get? b = some o := fun b o hb e => by rw [sb.2 b hb]; exact e
    have I' : Inv B (G.put cc o) H h' := (I.keeps fun b o hb e => k b o (fun q => by
      subst q
      rcases hb with hb | hb | hb
      · rw [hg] at hb; cases hb
      · exact hadr hb
      · exact htab hb) e).freeze ho hadr htab fun o' e => by rw [hg] at e; cases e
    have mono : ∀ b o', G.g b = some o' → (G.put cc o).g b = some o' := fun b o' e => by
      simp only [St.put]
      split
      · rename_i q; subst q; rw [hg] at e; cases e
      · exact e
    have st : Step B (Own sc env) G s.heap (G.put cc o) h' := by
      refine ⟨fun b o' q_ e => ?_, mono, fun b o' q_ hb => ?_, ⟨[], (List.append_nil _).symm, fun q_ hm => (List.not_mem_nil hm).elim⟩, fun b o' hb q_ q_ e => k b o' (fun q => hb (.inr ⟨_, hk, by rw [q]; exact hcc⟩)) e⟩
      · by_cases hb : b = cc
        · subst hb; exact ⟨o, ho⟩
        · exact ⟨o', k b o' hb e⟩
      · simp only [St.put]
        rw [if_neg (fun q => hb (.inr ⟨_, hk, by rw [q]; exact hcc⟩))]
    have rep : ∀ {y : AV} {u : Value}, Rep B G y u → Rep B (G.put cc o) y u := fun r => Rep.mono mono (fun q_ q_ e => e) r
    obtain ⟨m, hm, hl⟩ := P.loc
    refine hQ _ h' _ st I' ⟨P.tg, P.tm, P.kl, P.kc, P.kf, P.kg, P.kind, P.glb, P.blt, P.nod, by rw [List.length_set]; exact P.len, ?_, P.la, P.lt, ⟨m, ?_, fun j n' hj hj' w hw => ?_⟩, fun j n' hj hj' => ?_, fun a ha => (by
      obtain ⟨o', e⟩ := P.own a ha
      by_cases hb : a = cc
      · subst hb; exact ⟨o, ho⟩
      · exact ⟨o', k _ _ hb e⟩), P.apart⟩
    · simp only [St.put]
      rw [if_neg (fun q => hloc q.symm)]
      exact P.lg
    · refine via fun R_ k_ => ?_
      obtain ⟨o', es, ep, e, r⟩ := hm
      refine k_ ?_
      exact ⟨o', es, ep, k _ _ (fun q => hloc q.symm) e, r⟩
    · rcases set_some hw with ⟨e, e'⟩ | ⟨e, e'⟩
      · subst e
        rw [hn] at hj; cases hj
        rw [isKind_iff] at hk hj'; rw [hk] at hj'; cases hj'
      · obtain ⟨u, a, b⟩ := hl j n' hj hj' w e'
        exact ⟨u, a, rep b⟩
    · obtain ⟨c', a, b⟩ := P.cel j n' hj hj'
      refine ⟨c', a, ?_⟩
      by_cases hij : i = j
      · subst hij
        rw [hn] at hj; cases hj
        rw [a] at hcc; cases hcc
        rw [List.getElem?_set_self hi]
        exact ⟨o, v, St.put_at .., hd, rep rx⟩
      · rw [List.getElem?_set_ne hij]
        have un : (isKind sc (toS n') .cell = true ∧ (∃ o, s.heap.get? c' = some o ∧ o.data = .cell none) ∧ G.g c' = none ∧ c' ∉ G.adr ∧ c' ∉ B.tabP ∧ c' ≠ env.locals) →
            (isKind sc (toS n') .cell = true ∧ (∃ o, h'.get? c' = some o ∧ o.data = .cell none) ∧ (G.put cc o).g c' = none ∧ c' ∉ G.adr ∧ c' ∉ B.tabP ∧ c' ≠ env.locals) := by
          rintro ⟨b1, ⟨o', b2, b3⟩, b4, b5, b6, b7⟩
          have hne : c' ≠ cc := fun q => by
            subst q
            exact hij (nameOf hj (P.apart _ _ _ b1 hk a hcc)).symm
          refine ⟨b1, ⟨o', k _ _ hne b2, b3⟩, ?_, b5, b6, b7⟩
          simp only [St.put]
          rw [if_neg hne]; exact b4
        revert b
        cases F[j]? with
        | none => exact un
        | some z =>
          cases z with
          | none => exact un
          | some z =>
            rintro ⟨o', u, b1, b2, b3⟩
            exact ⟨o', u, mono _ _ b1, b2, rep b3⟩
end
end
section
set_option Elab.async false
set_option autoImplicit false
set_option linter.unusedVariables false
set_option tactic.hygienic false
set_option genSizeOf false
set_option genInjectivity false
open PySem PySem.W PyProof.Rows PySem.Calls
noncomputable def Goes (B : Base) (it v : Value) (tg : Expr → Prop) (X : Addr → Prop) (S : St → Heap → Prop) (G : St) (H : AH) (h : Heap) : Prop :=
  ∀ (A : Around) (t : Expr) (s : Shared), tg t → s.heap = h → ∀ (Q : Unit → Shared → Prop) (E : Value → Shared → Prop),
    (∀ G' h' tk', Step B X G h G' h' → Inv B G' H h' → S G' h' → Q () { s with heap := h', toks := tk' }) → wpAny (model B.prog B.w) A (letOwnedTupleGo t it v) Q E s
structure Itr (B : Base) (it : Value) (tg : Expr → Prop) (X : Addr → Prop) (xs : List AV) (S : Nat → St → Heap → Prop) : Prop where
  stay : ∀ (k : Nat) (Y : Addr → Prop) (G : St) (H : AH) (h : Heap) (G' : St) (H' : AH) (h' : Heap), S k G h → Inv B G H h → Inv B G' H' h' → Step B Y G h G' h' → (∀ a, X a → ¬ Y a) → S k G' h'
  item : ∀ (A : Around) (k : Nat) (s : Shared) (G : St) (H : AH) (x : AV), A.handled = none → xs[k]? = some x → S k G s.heap → Inv B G H s.heap → ∀ (Q : Option Value → Shared → Prop) (E : Value → Shared → Prop),
    (∀ v G' h' tk', Step B X G s.heap G' h' → Inv B G' H h' → Rep B G' x v → Goes B it v tg X (S (k + 1)) G' H h' → Q (some v) { s with heap := h', toks := tk' }) → wpAny (model B.prog B.w) A (pyNext it) Q E s
  done : ∀ (A : Around) (s : Shared) (G : St) (H : AH), A.handled = none → S xs.length G s.heap → Inv B G H s.heap → ∀ (Q : Option Value → Shared → Prop) (E : Value → Shared → Prop),
    (∀ G' h' tk', Step B X G s.heap G' h' → Inv B G' H h' → Q none { s with heap := h', toks := tk' }) → wpAny (model B.prog B.w) A (pyNext it) Q E s
  self : ∀ (A : Around) (k : Nat) (s : Shared) (G : St), A.handled = none → S k G s.heap → ∀ (Q : Value → Shared → Prop) (E : Value → Shared → Prop), Q it s → wpAny (model B.prog B.w) A (pyIter it) Q E s
section
variable {B : Base}
theorem Step.own {X : Addr → Prop} {G : St} {h h' : Heap} (k : ∀ b o, ¬ X b → h.get? b = some o → h'.get? b = some o) : Step B X G h G h' :=
  ⟨fun b o n e => ⟨o, k b o n e⟩, fun q_ q_ e => e, fun q_ q_ q_ q_ => rfl, ⟨[], (List.append_nil _).symm, fun q_ hm => nomatch hm⟩, fun b o n q_ q_ e => k b o n e⟩
structure Wst (B : Base) (fp wr : List Addr) (R : St → Prop) (G : St) (h : Heap) : Prop where
  own : ∀ b ∈ wr, b ∉ G.adr ∧ b ∉ B.tabP ∧ G.g b = none ∧ ∃ o, h.get? b = some o
  fix : ∀ b ∈ fp, b ∉ wr → ∃ o, G.g b = some o
  rel : R G
theorem Inv.own {G : St} {H : AH} {h h' : Heap} (I : Inv B G H h) {wr : List Addr} (n : ∀ b ∈ wr, b ∉ G.adr ∧ b ∉ B.tabP ∧ G.g b = none) (k : ∀ b o, b ∉ wr → h.get? b = some o → h'.get? b = some o) : Inv B G H h' :=
  I.keeps fun b o hb e => k b o (fun q => by
    obtain ⟨a1, a2, a3⟩ := n b q
    rcases hb with hb | hb | hb
    · rw [a3] at hb; cases hb
    · exact a1 hb
    · exact a2 hb) e
theorem goes_plain {I : Addr} {v : Value} {X : Addr → Prop} {S : St → Heap → Prop} {G : St} {H : AH} {h : Heap} {o : Obj} {ty : String} (e : h.get? I = some o) (hc : o.cls = .type ty)
    (hn : ["enumerate", "zip", "dict_itemiterator", "dict_reverseitemiterator", "odict_iterator", "itertools.zip_longest", "itertools.pairwise"].contains ty = false) (I' : Inv B G H h) (hS : S G h) : Goes B (.ref I) v (fun q_ => True) X S G H h := by
  intro A t s _ hs Q E hQ
  subst hs
  have q : Q () s := hQ G s.heap s.toks (Step.refl ..) I' hS
  unfold letOwnedTupleGo
  split
  · cases v <;> first
      | exact wpAny_pure q
      | (refine wpAny_bind (wpAny_load e ?_)
         rw [hc]
         cases o.data <;> first
           | exact wpAny_pure q
           | (dsimp only
              rw [hn, Bool.false_and, if_neg Bool.false_ne_true]
              exact wpAny_pure q))
  · cases v <;> first
      | exact wpAny_pure q
      | (refine wpAny_bind (wpAny_load e ?_)
         rw [hc]
         cases o.data <;> first
           | exact wpAny_pure q
           | (dsimp only
              rw [hn, Bool.false_and, if_neg Bool.false_ne_true]
              exact wpAny_pure q))
  · exact wpAny_pure q
theorem Itr.ofWalks {I : Addr} {fp wr : List Addr} {n : Nat} {P : Nat → Value → Prop} {W : Nat → Heap → Prop} {xs : List AV} (w : ∀ A : Around, A.handled = none → Walks B.prog B.w A I fp wr n P W) (hn : xs.length = n)
    (lv : ∀ k h, W k h → ∀ b ∈ wr, ∃ o, h.get? b = some o) {ty : String} (hty : ∀ k h, W k h → ∃ o, h.get? I = some o ∧ o.cls = .type ty)
    (hnt : ["enumerate", "zip", "dict_itemiterator", "dict_reverseitemiterator", "odict_iterator", "itertools.zip_longest", "itertools.pairwise"].contains ty = false) {R : St → Prop} (hR : ∀ (G G' : St), R G → (∀ b o, G.g b = some o → G'.g b = some o) → (∀ (i : Nat) p, G.al[i]? = some p → G'.al[i]? = some p) → R G')
    (hP : ∀ (G : St) (i : Nat) (x : AV) (v : Value), R G → xs[i]? = some x → P i v → Rep B G x v) : Itr B (.ref I) (fun q_ => True) (· ∈ wr) xs fun k G h => W k h ∧ Wst B fp wr R G h where
  stay := fun k Y G H h G' H' h' ⟨a, b⟩ I I' st hY => by
    have keep : ∀ b ∈ fp, ∀ o, h.get? b = some o → h'.get? b = some o := fun c hc o e => by
      by_cases q : c ∈ wr
      · obtain ⟨x1, x2, x3, x4⟩ := b.own c q
        exact st.keep c o (hY c q) x1 x2 e
      · obtain ⟨o', x⟩ := b.fix c hc q
        have e1 := I.sub _ _ x
        rw [e] at e1; cases e1
        exact I'.sub _ _ (st.mono _ _ x)
    refine ⟨?_, fun c hc => ?_, fun c hc q => ?_, ?_⟩
    · exact (w {} rfl).frame k h h' a keep
    · refine via fun R_ k_ => ?_
      obtain ⟨x1, x2, x3, o, x4⟩ := b.own c hc
      refine k_ ?_
      exact ⟨not_new st x1 (hY c hc) x4, x2, (st.ext c o x4 (hY c hc)).trans x3, o, st.keep c o (hY c hc) x1 x2 x4⟩
    · obtain ⟨o, x⟩ := b.fix c hc q
      exact ⟨o, st.mono _ _ x⟩
    · exact hR G G' b.rel st.mono fun i p e => st.alAt e
  item := fun A k s G H x hA hx ⟨a, b⟩ I Q E hQ => by
    have hk : k < n := by rw [← hn]; exact (List.getElem?_eq_some_iff.mp hx).1
    refine (w A hA).item k s Q E hk a fun v h' tk hv hw kp => ?_
    have st : Step B (· ∈ wr) G s.heap G h' := Step.own kp
    obtain ⟨o, ho, hc⟩ := hty _ _ hw
    have I' := I.own (fun c hc => ⟨(b.own c hc).1, (b.own c hc).2.1, (b.own c hc).2.2.1⟩) kp
    exact hQ v G h' tk st I' (hP G k x v b.rel hx hv)
      (goes_plain ho hc hnt I' ⟨hw, fun c hc => ⟨(b.own c hc).1, (b.own c hc).2.1, (b.own c hc).2.2.1, lv _ _ hw c hc⟩, b.fix, b.rel⟩)
  self := fun A k s G hA ⟨a, b⟩ Q E hQ => (w A hA).self k s Q E a hQ
  done := fun A s G H hA ⟨a, b⟩ I Q E hQ => by
    rw [hn] at a
    refine (w A hA).done s Q E a fun h' tk kp => ?_
    exact hQ G h' tk (Step.own kp) (I.own (fun c hc => ⟨(b.own c hc).1, (b.own c hc).2.1, (b.own c hc).2.2.1⟩) kp)
noncomputable def Iters (B : Base) (A : Around) (tg : Expr → Prop) (t : Sem Value) (G : St) (H : AH) (xs : List AV) (s : Shared) : Prop :=
  ∀ (Q : Value → Shared → Prop) (E : Value → Shared → Prop), (∀ it X S G' h' tk', Step B Pure G s.heap G' h' → Inv B G' H h' → Itr B it tg X xs S → S 0 G' h' → (∀ a, X a → s.heap.get? a = none ∧ ∃ o, h'.get? a = some o) → Q it { s with heap := h', toks := tk' }) →
    wpAny (model B.prog B.w) A t Q E s
section
variable {A : Around} {G : St} {H : AH} {s : Shared}
theorem push_itr (I : Inv B G H s.heap) {o : Obj} (hf : o.isFreed = false) : Step B Pure G s.heap G (s.heap.push o) ∧ Inv B G H (s.heap.push o) ∧
    (s.heap.objs.size ∉ G.adr ∧ s.heap.objs.size ∉ B.tabP ∧ G.g s.heap.objs.size = none ∧ ∃ o', (s.heap.push o).get? s.heap.objs.size = some o') := by
  have k : ∀ b o', s.heap.get? b = some o' → (s.heap.push o).get? b = some o' := fun b o' e => Heap.get?_push_of_some _ e
  exact ⟨Step.priv k, I.keeps fun b o' q_ e => k b o' e, fun m => absurd (I.lt m) (Nat.lt_irrefl _), fun m => absurd (I.tabLt m) (Nat.lt_irrefl _), I.gNew (Nat.le_refl _), _, Heap.get?_push_size _ hf⟩
theorem ne_end {a : Addr} {o : Obj} (e : s.heap.get? a = some o) : a ≠ s.heap.objs.size := fun q => by
  rw [q] at e
  exact absurd (Heap.lt_size e) (Nat.lt_irrefl _)
theorem iter_lst {xs : List AV} {v : Value} (I : Inv B G H s.heap) (r : Rep B G (.lst xs) v) : Iters B A (fun q_ => True) (pyIter v) G H xs s := fun Q E hQ => by
  obtain ⟨a, vs, n, rfl, g, ra⟩ := r
  have ho := I.sub _ _ g
  have hl : s.heap.IsList a vs := ⟨_, ho, rfl, n, rfl⟩
  refine wpAny_pyIter_list hl ?_
  obtain ⟨st, I', own⟩ := push_itr (B := B) I (o := { cls := .type "list_iterator", data := .fields #[.ref a, .int 0 0] }) rfl
  have W := Itr.ofWalks (B := B) (xs := xs) (fun A (hA : A.handled = none) => Walks.list (prog := B.prog) (w := B.w) (A := A) hA s.heap.objs.size a (ne_end ho) vs) (size_of ra).symm
    (fun k h st b hb => by
      rw [List.mem_singleton] at hb; subst hb
      obtain ⟨o, e, _⟩ := st.1
      exact ⟨o, e⟩) (fun k h st => let ⟨o, e, c, _⟩ := st.1; ⟨o, e, c⟩) (by decide) (R := fun G => RepL B G xs vs.toList) (fun G G' r k ka => RepL.mono k ka r)
    (fun G i x v r hx hv => by
      obtain ⟨u, hu, ru⟩ := repL_get r i x hx
      rw [Array.getElem?_toList, hv] at hu; cases hu
      exact ru)
  refine hQ _ _ _ G _ s.toks st I' W ⟨⟨⟨_, Heap.get?_push_size _ rfl, rfl, rfl⟩, ?_⟩, fun b hb => ?_, fun b hb hb' => ?_, ra⟩ fun b hb => ?_
  · obtain ⟨o, ho, r⟩ := hl
    exact ⟨o, Heap.get?_push_of_some _ ho, r⟩
  · rw [List.mem_singleton] at hb; subst hb; exact own
  · rcases List.mem_cons.mp hb with q | q
    · exact absurd (by rw [q]; exact List.mem_singleton_self _) hb'
    · rw [List.mem_singleton] at q; subst q; exact ⟨_, g⟩
  · rw [List.mem_singleton] at hb; subst hb
    exact ⟨Heap.get?_end _, own.2.2.2⟩
theorem iter_tup {xs : List AV} {v : Value} (I : Inv B G H s.heap) (r : Rep B G (.tup xs) v) : Iters B A (fun q_ => True) (pyIter v) G H xs s := fun Q E hQ => by
  obtain ⟨a, vs, n, rfl, g, ra⟩ := r
  have ho := I.sub _ _ g
  have hl : s.heap.IsTuple a vs := ⟨_, ho, rfl, n, rfl⟩
  refine wpAny_pyIter_tuple hl ?_
  obtain ⟨st, I', own⟩ := push_itr (B := B) I (o := { cls := .type "tuple_iterator", data := .fields #[.ref a, .int 0 0] }) rfl
  have W := Itr.ofWalks (B := B) (xs := xs) (fun A (hA : A.handled = none) => Walks.tuple (prog := B.prog) (w := B.w) (A := A) hA s.heap.objs.size a (ne_end ho) vs) (size_of ra).symm
    (fun k h st b hb => by
      rw [List.mem_singleton] at hb; subst hb
      obtain ⟨o, e, _⟩ := st.1
      exact ⟨o, e⟩) (fun k h st => let ⟨o, e, c, _⟩ := st.1; ⟨o, e, c⟩) (by decide) (R := fun G => RepL B G xs vs.toList) (fun G G' r k ka => RepL.mono k ka r)
    (fun G i x v r hx hv => by
      obtain ⟨u, hu, ru⟩ := repL_get r i x hx
      rw [Array.getElem?_toList, hv] at hu; cases hu
      exact ru)
  refine hQ _ _ _ G _ s.toks st I' W ⟨⟨⟨_, Heap.get?_push_size _ rfl, rfl, rfl⟩, ?_⟩, fun b hb => ?_, fun b hb hb' => ?_, ra⟩ fun b hb => ?_
  · obtain ⟨o, ho, r⟩ := hl
    exact ⟨o, Heap.get?_push_of_some _ ho, r⟩
  · rw [List.mem_singleton] at hb; subst hb; exact own
  · rcases List.mem_cons.mp hb with q | q
    · exact absurd (by rw [q]; exact List.mem_singleton_self _) hb'
    · rw [List.mem_singleton] at q; subst q; exact ⟨_, g⟩
  · rw [List.mem_singleton] at hb; subst hb
    exact ⟨Heap.get?_end _, own.2.2.2⟩
theorem sign_rep {cs : List Nat} {i : Nat} {x : AV} {v : Value} (hx : (cs.map fun c => AV.str [c])[i]? = some x) (hv : SignAt (toS cs) i v) : Rep B G x v := by
  obtain ⟨c, u, e, rfl⟩ := hv
  rw [List.getElem?_map] at hx
  have e' : cs[i]? = some c := by simpa [toS] using e
  rw [e'] at hx; cases hx
  exact ⟨u, rfl⟩
set_option tactic.hygienic true in
theorem iter_str {cs : List Nat} {v : Value} (I : Inv B G H s.heap) (r : Rep B G (.str cs) v) : Iters B A (fun q_ => True) (pyIter v) G H (cs.map fun c => .str [c]) s := fun Q E hQ => by
  obtain ⟨t, rfl⟩ := r
  refine wpAny_pyIter_strU ?_
  have hn : (cs.map fun c => AV.str [c]).length = (toS cs).cps.size := by
    rw [List.length_map]
    exact (toS_length cs).symm
  obtain ⟨st, I', own⟩ := push_itr (B := B) I (o := { cls := .type (strIterType (toS cs)), data := .fields #[.str (toS cs) t, .int 0 0] }) rfl
  have lv : ∀ (ty : String) k (h : Heap), h.IsStrIter s.heap.objs.size ty (toS cs) t k → ∀ b ∈ [s.heap.objs.size], ∃ o, h.get? b = some o := fun ty k h st b hb => by
    rw [List.mem_singleton] at hb; subst hb
    obtain ⟨o, e, _⟩ := st
    exact ⟨o, e⟩
  have fin : ∀ ty, strIterType (toS cs) = ty → Itr B (.ref s.heap.objs.size) (fun q_ => True) (· ∈ [s.heap.objs.size]) (cs.map fun c => AV.str [c]) (fun k G h => h.IsStrIter s.heap.objs.size ty (toS cs) t k ∧ Wst B [s.heap.objs.size] [s.heap.objs.size] (fun q_ => True) G h) →
      Q (.ref s.heap.objs.size) { s with heap := s.heap.push { cls := .type (strIterType (toS cs)), data := .fields #[.str (toS cs) t, .int 0 0] } } := fun ty ht W => by
    refine hQ _ _ _ G _ s.toks st I' W ⟨⟨_, Heap.get?_push_size _ rfl, by rw [ht], rfl⟩, fun b hb => ?_, fun b hb hb' => absurd hb hb', trivial⟩ fun b hb => ?_
    · rw [List.mem_singleton] at hb; subst hb; exact own
    · rw [List.mem_singleton] at hb; subst hb
      exact ⟨Heap.get?_end _, own.2.2.2⟩
  by_cases ha : strIterType (toS cs) = "str_ascii_iterator"
  · exact fin _ ha (Itr.ofWalks (fun A hA => Walks.strAscii hA s.heap.objs.size (toS cs) t) hn (lv _) (fun k h st => let ⟨o, e, c, _⟩ := st; ⟨o, e, c⟩) (by decide) (fun q_ q_ q_ q_ q_ => trivial) fun G i x v q_ hx hv => sign_rep hx hv)
  · have hb : strIterType (toS cs) = "str_iterator" := by
      unfold strIterType at ha ⊢
      split at ha
      · exact absurd rfl ha
      · rename_i q; rw [if_neg q]
    exact fin _ hb (Itr.ofWalks (fun A hA => Walks.strWide hA s.heap.objs.size (toS cs) t) hn (lv _) (fun k h st => let ⟨o, e, c, _⟩ := st; ⟨o, e, c⟩) (by decide) (fun q_ q_ q_ q_ q_ => trivial) fun G i x v q_ hx hv => sign_rep hx hv)
end
end
end
section
set_option Elab.async false
set_option autoImplicit false
set_option linter.unusedVariables false
set_option tactic.hygienic false
set_option genSizeOf false
set_option genInjectivity false
open PySem PySem.W PyProof.Rows PySem.Calls
section
variable {B : Base} {A : Around} {T : Tabs} {sc : Scope} {ns : List (List Nat)} {env : Env}
noncomputable def AsT (B : Base) (A : Around) (T : Tabs) (sc : Scope) (ns : List (List Nat)) (env : Env) (t : Expr) (m : AV → AF → AM AF) : Prop :=
  ∀ (F : AF) (s : Shared) (G : St) (H : AH) (x : AV) (v : Value) (F' : AF) (H' : AH), FrOK B T sc ns env F G s.heap → Inv B G H s.heap → Rep B G x v → m x F H = some (F', H') →
  ∀ (Q : Unit → Shared → Prop) (E : Value → Shared → Prop), (∀ G' h' tk', Step B (Own sc env) G s.heap G' h' → Inv B G' H' h' → FrOK B T sc ns env F' G' h' → Q () { s with heap := h', toks := tk' }) →
    wpAny (model B.prog B.w) A (assign t env v) Q E s
theorem as_var {i : Nat} {c : Bool} {n : List Nat} {x : Str} {p : Pos} (hn : ns[i]? = some n) (hx : isS n x = true) (hk : isKind sc x (if c then .cell else .local) = true) :
    AsT B A T sc ns env (.Name x p) (fun v F => abind (aopt (aif ((i < F.length && (!c || (F[i]?.join).isNone)) = true) ())) fun q_ => apure (F.set i (some v))) := fun F s G H y v F' H' P I r eq Q E hQ => by
  rw [isS_eq hx] at hk ⊢
  obtain ⟨hc, eq⟩ := abind_aif eq
  obtain ⟨rfl, rfl⟩ := apure_some eq
  have hc := (Bool.or_eq_true _ _).mp ((Bool.and_eq_true _ _).mp hc).2
  refine wpAny_assign_Name (store_name P I hn hk (fun hcc => ?_) r fun G' h' tk' st I' P' => hQ G' h' tk' st I' P')
  rcases hc with q | q
  · rw [hcc] at q; cases q
  · exact Option.isNone_iff_eq_none.mp q
theorem as_attr {o : Expr} {f : Fld} {p : Pos} {mo : AF → AM AV} (K : ClassesOk B) (ho : ∀ F, EvE B A T sc ns env F o (mo F)) :
    AsT B A T sc ns env (.Attribute o f.name p) (fun v F => abind (mo F) fun x => abind (asetA x f v) fun q_ => apure F) := fun F s G H y v F' H' P I r eq Q E hQ => by
  obtain ⟨x, H1, e1, eq⟩ := abind_some eq
  obtain ⟨u, H2, e2, eq⟩ := abind_some eq
  obtain ⟨rfl, rfl⟩ := apure_some eq
  show wpAny _ A (do
    let ov ← holding [v] (eval o env)
    standAt p.atName
    holding [v, ov] (setAttr ov f.name v)
    release [v, ov] []) Q E s
  refine wpAny_bind (wpAny_holding (ho F s G H x H1 P I e1 _ _ fun w G1 h1 t1 s1 I1 P1 r1 => wpAny_bind (wpAny_standAt (wpAny_bind (wpAny_holding ?_)))))
  refine op_setAttr K e2 I1 r1 (s1.rep r) _ _ fun G2 h2 t2 s2 I2 => wpAny_release ?_
  exact hQ G2 h2 t2 (s1.trans s2).pure I2 (P1.step s2)
theorem assign_sub_eq (o i : Expr) (p : Pos) (v : Value) : assign (.Subscript o i p) env v = (do
    let ov ← holding [v] (eval o env)
    let iv ← holding [v, ov] (eval i env)
    standAt p
    holding [v, ov, iv] (setItem ov iv v)
    release (match i with | .Slice _ _ none _ => [iv, v, ov] | _ => [v, ov, iv]) []) := rfl
theorem as_sub {o i : Expr} {p : Pos} {mo mi : AF → AM AV} (ho : ∀ F, EvE B A T sc ns env F o (mo F)) (hi : ∀ F, EvE B A T sc ns env F i (mi F)) (hs : isSlice i = false) :
    AsT B A T sc ns env (.Subscript o i p) (fun v F => abind (mo F) fun x => abind (mi F) fun k => abind (asetI x k v) fun q_ => apure F) := fun F s G H y v F' H' P I r eq Q E hQ => by
  obtain ⟨x, H1, e1, eq⟩ := abind_some eq
  obtain ⟨k, H2, e2, eq⟩ := abind_some eq
  obtain ⟨u, H3, e3, eq⟩ := abind_some eq
  obtain ⟨rfl, rfl⟩ := apure_some eq
  rw [assign_sub_eq]
  refine wpAny_bind (wpAny_holding (ho F s G H x H1 P I e1 _ _ fun w G1 h1 t1 s1 I1 P1 r1 => ?_))
  refine wpAny_bind (wpAny_holding (hi F _ G1 H1 k H2 P1 I1 e2 _ _ fun w2 G2 h2 t2 s2 I2 P2 r2 => wpAny_bind (wpAny_standAt (wpAny_bind (wpAny_holding ?_)))))
  refine op_setItem e3 I2 (s2.rep r1) r2 (s2.rep (s1.rep r)) _ _ fun G3 h3 t3 s3 I3 => wpAny_release ?_
  exact hQ G3 h3 t3 (s1.trans (s2.trans s3)).pure I3 (P2.step s3)
noncomputable abbrev AsTs (B : Base) (A : Around) (T : Tabs) (sc : Scope) (ns : List (List Nat)) (env : Env) (ts : List Expr) (m : List AV → AF → AM AF) : Prop :=
  (∀ F H xs F' H', m xs F H = some (F', H') → xs.length = ts.length) ∧
  ∀ (F : AF) (s : Shared) (G : St) (H : AH) (xs : List AV) (vs : List Value) (F' : AF) (H' : AH), FrOK B T sc ns env F G s.heap → Inv B G H s.heap → RepL B G xs vs → m xs F H = some (F', H') →
  ∀ (Q : Unit → Shared → Prop) (E : Value → Shared → Prop), (∀ G' h' tk', Step B (Own sc env) G s.heap G' h' → Inv B G' H' h' → FrOK B T sc ns env F' G' h' → Q () { s with heap := h', toks := tk' }) →
    wpAny (model B.prog B.w) A (assignInOrder ((assignEach ts env).map (·.2)) vs) Q E s
theorem asts_nil : AsTs B A T sc ns env [] (fun xs F => abind (aopt (aif (xs = []) ())) fun q_ => apure F) := by
  refine ⟨fun F H xs F' H' eq => ?_, fun F s G H xs vs F' H' P I r eq Q E hQ => ?_⟩
  · rw [(abind_aif eq).1]; rfl
  · obtain ⟨_, eq⟩ := abind_aif eq
    obtain ⟨rfl, rfl⟩ := apure_some eq
    exact wpAny_pure (hQ G s.heap s.toks (Step.refl ..) I P)
theorem head_some {α : Type} : ∀ {xs : List α} {x : α}, xs.head? = some x → xs = x :: xs.tail
  | _ :: _, _, h => by cases h; rfl
theorem assignEach_cons {t : Expr} {ts : List Expr} (h : isStar t = false) : assignEach (t :: ts) env = (false, assign t env) :: assignEach ts env := by
  cases t <;> first | rfl | cases h
theorem asts_cons {t : Expr} {ts : List Expr} {m : AV → AF → AM AF} {ms : List AV → AF → AM AF} (hs : isStar t = false) (h : AsT B A T sc ns env t m) (hr : AsTs B A T sc ns env ts ms) :
    AsTs B A T sc ns env (t :: ts) (fun xs F => abind (aopt xs.head?) fun x => abind (m x F) fun F' => ms xs.tail F') := by
  refine ⟨fun F H xs F' H' eq => ?_, fun F s G H xs vs F' H' P I r eq Q E hQ => ?_⟩
  · refine via fun R_ k_ => ?_
    obtain ⟨x, h1, eq⟩ := abind_opt eq
    obtain ⟨F1, H1, e1, eq⟩ := abind_some eq
    refine k_ ?_
    rw [head_some h1, List.length_cons, List.length_cons, hr.1 _ _ _ _ _ eq]
  · refine via fun R_ k_ => ?_
    obtain ⟨x, h1, eq⟩ := abind_opt eq
    obtain ⟨F1, H1, e1, eq⟩ := abind_some eq
    refine k_ ?_
    rw [head_some h1] at r
    obtain ⟨v, r', rfl, rx, rr⟩ := r
    rw [assignEach_cons hs, List.map_cons]
    show wpAny _ A (do holding r' (assign t env v); assignInOrder ((assignEach ts env).map (·.2)) r') Q E s
    refine wpAny_bind (wpAny_holding (h F s G H x v F1 H1 P I rx e1 _ _ fun G1 h1 t1 s1 I1 P1 => ?_))
    exact hr.2 F1 _ G1 H1 xs.tail r' F' H' P1 I1 (s1.repL rr) eq _ _ fun G2 h2 t2 s2 I2 P2 => hQ G2 h2 t2 (s1.trans s2) I2 P2
theorem noStar_each : ∀ {ts : List Expr}, (ts.all fun t => !isStar t) = true → (assignEach ts env).findIdx? (·.1) = none ∧ (assignEach ts env).length = ts.length
  | [], _ => ⟨rfl, rfl⟩
  | t :: ts, h => by
    rw [List.all_cons, Bool.and_eq_true] at h
    obtain ⟨a, b⟩ := noStar_each (ts := ts) h.2
    rw [assignEach_cons (by simpa using h.1)]
    refine ⟨?_, by rw [List.length_cons, List.length_cons, b]⟩
    rw [List.findIdx?_cons]
    simp [a]
theorem as_tup {ts : List Expr} {k : Nat} {p : Pos} {ms : List AV → AF → AM AF} (hA : A.handled = none) (hs : (ts.all fun t => !isStar t) = true) (h : AsTs B A T sc ns env ts ms) :
    AsT B A T sc ns env (.Tuple ts k p) (fun v F => abind (aopt (toTup v)) fun xs => ms xs F) := fun F s G H y v F' H' P I r eq Q E hQ => by
  obtain ⟨xs, h1, eq⟩ := abind_opt eq
  have h1 := toTup_some h1
  subst h1
  obtain ⟨a, vs, rfl, ha, ra⟩ := isTup I r
  obtain ⟨n1, n2⟩ := noStar_each (env := env) hs
  refine wpAny_assign_Tuple hA ha (by rw [n2, size_of ra]; exact (h.1 _ _ _ _ _ eq).symm) n1 fun h' ke => ?_
  have k : ∀ b o, s.heap.get? b = some o → h'.get? b = some o := fun b o e => ke b o (ne_end e) e
  have st : Step B Pure G s.heap G h' := Step.priv k
  exact h.2 F _ G H xs _ F' H' (P.step st) (I.keeps fun b o q_ e => k b o e) ra eq _ _ fun G2 h2 t2 s2 I2 P2 => hQ G2 h2 t2 (st.pure.trans s2) I2 P2
noncomputable def FloR (B : Base) (G : St) : Flo → Flow → Prop
  | .next, .next => True
  | .ret v, .ret u => Rep B G v u
  | _, _ => False
noncomputable def ExS (B : Base) (A : Around) (T : Tabs) (sc : Scope) (ns : List (List Nat)) (env : Env) (t : Sem Flow) (m : AF → AM (Flo × AF)) : Prop :=
  ∀ (F : AF) (s : Shared) (G : St) (H : AH) (fl : Flo) (F' : AF) (H' : AH), FrOK B T sc ns env F G s.heap → Inv B G H s.heap → m F H = some ((fl, F'), H') →
  ∀ (Q : Flow → Shared → Prop) (E : Value → Shared → Prop), (∀ f G' h' tk', Step B (Own sc env) G s.heap G' h' → Inv B G' H' h' → FrOK B T sc ns env F' G' h' → FloR B G' fl f → Q f { s with heap := h', toks := tk' }) →
    wpAny (model B.prog B.w) A t Q E s
theorem ex_ret {e : Expr} {p : Pos} {me : AF → AM AV} (h : ∀ F, EvE B A T sc ns env F e (me F)) : ExS B A T sc ns env (exec (.Return (some e) p) env) (fun F => abind (me F) fun v => apure (.ret v, F)) := fun F s G H fl F' H' P I eq Q E hQ => by
  obtain ⟨x, H1, e1, eq⟩ := abind_some eq
  obtain ⟨e2, rfl⟩ := apure_some eq
  cases e2
  exact wpAny_Return_some (h F s G H x _ P I e1 _ _ fun v G1 h1 t1 s1 I1 P1 r1 => hQ _ G1 h1 t1 s1.pure I1 P1 r1)
theorem ex_retN {p : Pos} : ExS B A T sc ns env (exec (.Return none p) env) (fun F => apure (.ret .none, F)) := fun F s G H fl F' H' P I eq Q E hQ => by
  obtain ⟨e2, rfl⟩ := apure_some eq
  cases e2
  exact wpAny_Return_none (hQ _ G s.heap s.toks (Step.refl ..) I P rfl)
theorem ex_expr {e : Expr} {p : Pos} {me : AF → AM AV} (hc : notComp e = true) (h : ∀ F, EvE B A T sc ns env F e (me F)) :
    ExS B A T sc ns env (exec (.Expr e p) env) (fun F => abind (me F) fun v => abind (aopt (aif ((v.isNone || (toInt v).isSome) = true) ())) fun q_ => apure (.next, F)) := fun F s G H fl F' H' P I eq Q E hQ => by
  obtain ⟨x, H1, e1, eq⟩ := abind_some eq
  obtain ⟨hx, eq⟩ := abind_aif eq
  obtain ⟨e2, rfl⟩ := apure_some eq
  cases e2
  have hi : interactive env = false := by
    unfold interactive
    rw [P.kind]; rfl
  have hs : swapsWith e none p.line env = pure false := by
    unfold swapsWith
    cases e <;> first | rfl | cases hc
  refine wpAny_Expr (h F s G H x _ P I e1 _ _ fun v G1 h1 t1 s1 I1 P1 r1 => ?_) hi hs
  cases x with
  | none =>
    rw [show v = _ from r1]
    exact hQ _ G1 h1 t1 s1.pure I1 P1 trivial
  | int i =>
    obtain ⟨t, rfl⟩ := r1
    exact hQ _ G1 h1 t1 s1.pure I1 P1 trivial
  | _ => exact bad hx
theorem ex_cond {c : Expr} {a b : List Stmt} {p : Pos} {mc : AF → AM AV} {ma mb : AF → AM (Flo × AF)} (hc : ∀ F, EvT B A T sc ns env F c (mc F)) (ha : ExS B A T sc ns env (execs a env) ma) (hb : ExS B A T sc ns env (execs b env) mb) :
    ExS B A T sc ns env (exec (.If c a b p) env) (fun F => abind (mc F) fun v => abind (aopt (truthA v)) fun t => if t then ma F else mb F) := fun F s G H fl F' H' P I eq Q E hQ => by
  obtain ⟨t, H1, e1, eq⟩ := abind_truth eq
  refine wpAny_If (hc F s G H t H1 P I (tst_of e1) _ _ fun v G1 h1 t1 s1 I1 P1 r1 => ?_)
  subst r1
  cases v with
  | true => exact ha F _ G1 H1 fl F' H' P1 I1 eq _ _ fun f G2 h2 t2 s2 I2 P2 r2 => hQ f G2 h2 t2 (s1.pure.trans s2) I2 P2 r2
  | false => exact hb F _ G1 H1 fl F' H' P1 I1 eq _ _ fun f G2 h2 t2 s2 I2 P2 r2 => hQ f G2 h2 t2 (s1.pure.trans s2) I2 P2 r2
theorem exs_nil : ExS B A T sc ns env (execs [] env) (fun F => apure (.next, F)) := fun F s G H fl F' H' P I eq Q E hQ => by
  obtain ⟨e2, rfl⟩ := apure_some eq
  cases e2
  exact wpAny_pure (hQ _ G s.heap s.toks (Step.refl ..) I P trivial)
theorem exs_cons {x : Stmt} {r : List Stmt} {mx mr : AF → AM (Flo × AF)} (hx : ExS B A T sc ns env (exec x env) mx) (hr : ExS B A T sc ns env (execs r env) mr) : ExS B A T sc ns env (execs (x :: r) env) (fun F => abind (mx F) fun p => athen mr p) := fun F s G H fl F' H' P I eq Q E hQ => by
  refine via fun R_ k_ => ?_
  obtain ⟨⟨f1, F1⟩, H1, e1, eq⟩ := abind_some eq
  refine k_ ?_
  refine wpAny_execs_cons (hx F s G H f1 F1 H1 P I e1 _ _ fun f G1 h1 t1 s1 I1 P1 r1 => ?_)
  cases f1 with
  | next =>
    cases f with
    | next => exact hr F1 _ G1 H1 fl F' H' P1 I1 eq _ _ fun f G2 h2 t2 s2 I2 P2 r2 => hQ f G2 h2 t2 (s1.trans s2) I2 P2 r2
    | _ => exact r1.elim
  | ret v =>
    obtain ⟨e2, rfl⟩ := apure_some eq
    cases e2
    cases f with
    | ret u => exact hQ _ G1 h1 t1 s1 I1 P1 r1
    | _ => exact r1.elim
end
end
section
set_option Elab.async false
set_option autoImplicit false
set_option linter.unusedVariables false
set_option tactic.hygienic false
set_option genSizeOf false
set_option genInjectivity false
open PySem PySem.W PyProof.Rows PySem.Calls
section
variable {prog : Program} {w : World} {A : Around} {s : Shared}
theorem forLoopG {R : Result → Shared → Prop} {target it body orelse env} (I : Nat → Shared → Prop)
    (turn : ∀ n s, I n s → wpAny (model prog w) A (pyNext it) (fun r s₁ => match r with
      | none => wpAny (model prog w) A (execs orelse env) (fun f s₃ => R (.ok f) s₃) (notedBy (model prog w) A env fun e s' => R (.error e) s') s₁
      | some v => wpAny (model prog w) A (letOwnedTupleGo target it v) (fun q_ s₁' => wpAny (model prog w) A (assign target env v) (fun q_ s₂ => wpAny (model prog w) A (execs body env) (fun f s₃ => match f with
          | .next | .cont => ∃ m, m < n ∧ I m s₃
          | .brk => R (.ok .next) s₃
          | .ret v => R (.ok (.ret v)) s₃) (notedBy (model prog w) A env fun e s' => R (.error e) s') s₂) (notedBy (model prog w) A env fun e s' => R (.error e) s') s₁') (notedBy (model prog w) A env fun e s' => R (.error e) s') s₁) (notedBy (model prog w) A env fun e s' => R (.error e) s') s)
    (n : Nat) (h : I n s) : codeAny (model prog w) A (.forLoop target it body orelse env) R s := by
  refine codeAny_loop' rfl I (fun n s hI => ?_) n h
  show wpAny _ _ ((forTurn target it body orelse env).onRaise (fun x => do noteFrame x env; theTreesLotGoes x)) _ _ s
  refine wpAny_noted ?_
  simp only [forTurn]
  refine wpAny_bind (wpAny_standAt (wpAny_bind (wpAny_onRaise (wpAny_mono (turn n s hI) (fun r s₁ h₁ => ?_) fun q_ q_ h' => wpAny_standAt h'))))
  cases r with
  | none => exact wpAny_pure (.inr ⟨rfl, codeAny_block h₁⟩)
  | some v =>
    refine wpAny_bind (wpAny_mono h₁ (fun q_ s₁' h₁' => ?_) fun q_ q_ h' => h')
    refine wpAny_bind (wpAny_mono h₁' (fun q_ s₂ h₂ => wpAny_bind (wpAny_mono h₂ (fun f s₃ h₃ => ?_) fun q_ q_ h' => h')) fun q_ q_ h' => h')
    cases f with
    | next => exact wpAny_pure (.inl ⟨rfl, h₃⟩)
    | cont => exact wpAny_pure (.inl ⟨rfl, h₃⟩)
    | brk => exact wpAny_pure h₃
    | ret v => exact wpAny_pure h₃
end
section
variable {B : Base} {A : Around} {T : Tabs} {sc : Scope} {ns : List (List Nat)} {env : Env}
inductive LoopAt (B : Base) (Y : Addr → Prop) (P : AF → St → Heap → Prop) (g : AF → AM (Flo × AF)) (r : (Flo × AF) × AH) (s : Shared) (G : St) (h : Heap) : Shared → Prop
  | mk {F1 : AF} {G1 : St} {H1 : AH} {h1 : Heap} {t1 : Tok} (st : Step B Y G h G1 h1) (I : Inv B G1 H1 h1) (p : P F1 G1 h1) (eq : g F1 H1 = some r) : LoopAt B Y P g r s G h { s with heap := h1, toks := t1 }
theorem ex_while {c : Expr} {a : List Stmt} {p : Pos} {mc : AF → AM AV} {ma : AF → AM (Flo × AF)} {W : Nat} (hc : ∀ F, EvT B A T sc ns env F c (mc F)) (ha : ExS B A T sc ns env (execs a env) ma) :
    ExS B A T sc ns env (exec (.While c a [] p) env) (fun F => awhile (fun F => abind (mc F) fun v => aopt (truthA v)) ma W F) := fun F s G H fl F' H' P I eq Q E hQ => by
  refine wpAny_While (codeAny_whileLoop (fun n => LoopAt B (Own sc env) (FrOK B T sc ns env) (awhile (fun F => tst (mc F)) ma n) ((fl, F'), H') s G s.heap) (fun n s' hI => ?_) W (.mk (Step.refl ..) I P eq))
  clear eq I P
  refine via fun R_ k_ => ?_
  obtain @⟨F1, G1, H1, h1, t1, s1, I1, P1, eq⟩ := hI
  refine k_ ?_
  cases n with
  | zero => cases eq
  | succ n =>
    rw [awhile_succ] at eq
    obtain ⟨b, H2, e1, eq⟩ := abind_some eq
    refine hc F1 _ G1 H1 b H2 P1 I1 e1 _ _ fun v G2 h2 t2 s2 I2 P2 r2 => ?_
    subst r2
    cases v with
    | false =>
      obtain ⟨e2, rfl⟩ := apure_some eq
      cases e2
      exact wpAny_execs_nil (hQ _ G2 h2 t2 (s1.trans s2.pure) I2 P2 trivial)
    | true =>
      rw [cond_true] at eq
      refine via fun R_ k_ => ?_
      obtain ⟨⟨f1, F2⟩, H3, e3, eq⟩ := abind_some eq
      refine k_ ?_
      refine ha F1 _ G2 H2 f1 F2 H3 P2 I2 e3 _ _ fun f G3 h3 t3 s3 I3 P3 r3 => ?_
      cases f1 with
      | next =>
        cases f with
        | next => exact ⟨n, Nat.lt_succ_self n, .mk (s1.trans (s2.pure.trans s3)) I3 P3 eq⟩
        | _ => exact r3.elim
      | ret v =>
        obtain ⟨e2, rfl⟩ := apure_some eq
        cases e2
        cases f with
        | ret u => exact hQ _ G3 h3 t3 (s1.trans (s2.pure.trans s3)) I3 P3 r3
        | _ => exact r3.elim
noncomputable def ItersX (B : Base) (A : Around) (tg : Expr → Prop) (t : Sem Value) (G : St) (H : AH) (xs : List AV) (s : Shared) (h0 : Heap) : Prop :=
  ∀ (Q : Value → Shared → Prop) (E : Value → Shared → Prop), (∀ it X S G' h' tk', Step B Pure G s.heap G' h' → Inv B G' H h' → Itr B it tg X xs S → S 0 G' h' → (∀ a, X a → h0.get? a = none ∧ ∃ o, h'.get? a = some o) → Q it { s with heap := h', toks := tk' }) →
    wpAny (model B.prog B.w) A t Q E s
theorem Iters.toX {tg : Expr → Prop} {t : Sem Value} {G : St} {H : AH} {xs : List AV} {s : Shared} {h0 : Heap} (i : Iters B A tg t G H xs s) (k : ∀ b o, h0.get? b = some o → ∃ o', s.heap.get? b = some o') : ItersX B A tg t G H xs s h0 :=
  fun Q E hQ => i Q E fun it X S G' h' tk' a b c d e => hQ it X S G' h' tk' a b c d fun x hx => ⟨(by
    cases q : h0.get? x with
    | none => rfl
    | some o =>
      obtain ⟨o', y⟩ := k x o q
      rw [(e x hx).1] at y; cases y), (e x hx).2⟩
noncomputable def EvI (B : Base) (A : Around) (T : Tabs) (sc : Scope) (ns : List (List Nat)) (env : Env) (F : AF) (tg : Expr → Prop) (e : Expr) (m : AM (List AV)) : Prop :=
  ∀ (s : Shared) (G : St) (H : AH) (xs : List AV) (H' : AH), FrOK B T sc ns env F G s.heap → Inv B G H s.heap → m H = some (xs, H') →
  ∀ (Q : Value → Shared → Prop) (E : Value → Shared → Prop), (∀ v G' h' tk', Step B Pure G s.heap G' h' → Inv B G' H' h' → FrOK B T sc ns env F G' h' → (∀ (A : Around) (s' : Shared), A.handled = none → s'.heap = h' → ItersX B A tg (pyIter v) G' H' xs s' s.heap) →
    Q v { s with heap := h', toks := tk' }) → wpAny (model B.prog B.w) A (eval e env) Q E s
theorem fold_pure {it : Expr} {x : Value} (h : noFold it = true) : foldedSetIterable it env x = pure x := by
  cases it <;> first | rfl | cases h
theorem ex_for {t it : Expr} {a : List Stmt} {p : Pos} {tg : Expr → Prop} {mi : AF → AM (List AV)} {mt : AV → AF → AM AF} {ma : AF → AM (Flo × AF)} (hA : A.handled = none) (hf : noFold it = true) (htg : tg t) (hi : ∀ F, EvI B A T sc ns env F tg it (mi F))
    (ht : AsT B A T sc ns env t mt) (ha : ExS B A T sc ns env (execs a env) ma) :
    ExS B A T sc ns env (exec (.For t it a [] p) env) (fun F => abind (mi F) fun xs => afor (fun x F => abind (mt x F) fun F' => ma F') xs F) := fun F s G H fl F' H' P I eq Q E hQ => by
  obtain ⟨xs, H1, e1, eq⟩ := abind_some eq
  refine wpAny_For (hi F s G H xs H1 P I e1 _ _ fun v G1 h1 t1 s1 I1 P1 r1 => ?_) (fun x => fold_pure hf)
  refine r1 A _ hA rfl _ _ fun iv X S G2 h2 t2 s2 I2 W S0 fr => ?_
  have P2 := P1.step s2
  have apart : ∀ b, Own sc env b → ¬ X b := fun b hb hx => by
    obtain ⟨o, e⟩ := P.own b hb
    rw [(fr b hx).1] at e; cases e
  have apart' : ∀ b, X b → ¬ Own sc env b := fun b hx hb => apart b hb hx
  have own : ∀ {G G' : St} {h h' : Heap}, Step B (Own sc env) G h G' h' → Step B (fun b => Own sc env b ∨ X b) G h G' h' := fun st => st.weak fun b q => .inl q
  have its : ∀ {G G' : St} {h h' : Heap}, Step B X G h G' h' → Step B (fun b => Own sc env b ∨ X b) G h G' h' := fun st => st.weak fun b q => .inr q
  have fin : ∀ {G' : St} {h' : Heap}, Step B (fun b => Own sc env b ∨ X b) G2 h2 G' h' → Step B (Own sc env) G s.heap G' h' := fun st =>
    Step.shutTo (s1.pure.trans (s2.pure.trans st)) fun b hb => (fr b hb).1
  refine forLoopG (fun n s' => ∃ k, n + k = xs.length ∧ LoopAt B (fun b => Own sc env b ∨ X b) (fun F G h => FrOK B T sc ns env F G h ∧ S k G h) (afor (fun x F => abind (mt x F) fun F' => ma F') (xs.drop k)) ((fl, F'), H') s G2 h2 s') (fun n s' hI => ?_) xs.length ⟨0, rfl, .mk (Step.refl ..) I2 ⟨P2, S0⟩ eq⟩
  clear eq e1 P1 r1 S0 I1 I2 P2
  refine via fun R_ k_ => ?_
  obtain ⟨k, hk, @⟨F3, G3, H3, h3, t3, s3, I3, ⟨P3, S3⟩, eq⟩⟩ := hI
  refine k_ ?_
  cases n with
  | zero =>
    have hk : k = xs.length := (Nat.zero_add k).symm.trans hk
    subst hk
    rw [List.drop_length] at eq
    obtain ⟨e2, rfl⟩ := apure_some eq
    cases e2
    refine W.done A _ G3 _ hA S3 I3 _ _ fun G4 h4 t4 s4 I4 => wpAny_execs_nil ?_
    exact hQ _ G4 h4 t4 (fin (s3.trans (its s4))) I4 (P3.stepX s4 apart) trivial
  | succ n =>
    have hlt : k < xs.length := hk ▸ Nat.lt_add_of_pos_left (Nat.succ_pos n)
    have hx : xs[k]? = some xs[k] := List.getElem?_eq_getElem hlt
    rw [List.drop_eq_getElem_cons hlt, afor_cons] at eq
    refine via fun R_ k_ => ?_
    obtain ⟨⟨f1, F5⟩, H5, e2, eq⟩ := abind_some eq
    obtain ⟨F4, H4, e3, e4⟩ := abind_some e2
    refine k_ ?_
    refine W.item A k _ G3 H3 xs[k] hA hx S3 I3 _ _ fun v G4 h4 t4 s4 I4 r4 go => ?_
    refine go A t _ htg rfl _ _ fun G5 h5 t5 s5 I5 S5 => ?_
    have P5 := (P3.stepX s4 apart).stepX s5 apart
    refine ht F3 _ G5 H3 xs[k] v F4 H4 P5 I5 (s5.rep r4) e3 _ _ fun G6 h6 t6 s6 I6 P6 => ?_
    have S6 := W.stay (k + 1) _ G5 H3 h5 G6 H4 h6 S5 I5 I6 s6 apart'
    refine ha F4 _ G6 H4 f1 F5 H5 P6 I6 e4 _ _ fun f G7 h7 t7 s7 I7 P7 r7 => ?_
    have S7 := W.stay (k + 1) _ G6 H4 h6 G7 H5 h7 S6 I6 I7 s7 apart'
    have all := s3.trans ((its s4).trans ((its s5).trans ((own s6).trans (own s7))))
    cases f1 with
    | next =>
      cases f with
      | next => exact ⟨n, Nat.lt_succ_self n, k + 1, (Nat.succ_add_eq_add_succ n k).symm.trans hk, .mk all I7 ⟨P7, S7⟩ eq⟩
      | _ => exact r7.elim
    | ret v =>
      obtain ⟨e9, rfl⟩ := apure_some eq
      cases e9
      cases f with
      | ret u => exact hQ _ G7 h7 t7 (fin all) I7 P7 r7
      | _ => exact r7.elim
theorem ex_assign {t e : Expr} {p : Pos} {me : AF → AM AV} {mt : AV → AF → AM AF} (hc : notComp e = true) (hs : isStar t = false) (hw : swappedStores [t] e env = pure none)
    (he : ∀ F, EvE B A T sc ns env F e (me F)) (ht : AsT B A T sc ns env t mt) :
    ExS B A T sc ns env (exec (.Assign [t] e p) env) (fun F => abind (me F) fun v => abind (mt v F) fun F' => apure (.next, F')) := fun F s G H fl F' H' P I eq Q E hQ => by
  obtain ⟨x, H1, e1, eq⟩ := abind_some eq
  obtain ⟨F1, H2, e2, eq⟩ := abind_some eq
  obtain ⟨e3, rfl⟩ := apure_some eq
  cases e3
  have hsw : swapsWithSole [t] e p.line env = pure false := by
    show swapsWith e (some t) p.line env = pure false
    unfold swapsWith
    cases e <;> first | rfl | cases hc
  refine wpAny_Assign_stores (he F s G H x H1 P I e1 _ _ fun v G1 h1 t1 s1 I1 P1 r1 => ?_) hsw hw
  rw [assignEach_cons hs]
  exact ht F _ G1 H1 x v F' _ P1 I1 r1 e2 _ _ fun G2 h2 t2 s2 I2 P2 => hQ _ G2 h2 t2 (s1.pure.trans s2) I2 P2 trivial
end
end
section
set_option Elab.async false
set_option autoImplicit false
set_option linter.unusedVariables false
set_option tactic.hygienic false
set_option genSizeOf false
set_option genInjectivity false
open PySem PySem.W PyProof.Rows PySem.Calls
structure Prs (prog : Program) (w : World) (A : Around) (I : Addr) (fp wr : List Addr) (n : Nat) (P : Nat → Value → Value → Prop) (W : Nat → Heap → Prop) (M : Nat → Addr → Heap → Prop) : Prop where
  frame : ∀ i h h', W i h → (∀ b ∈ fp, ∀ o, h.get? b = some o → h'.get? b = some o) → W i h'
  liveW : ∀ i h, W i h → ∀ b ∈ wr, ∃ o, h.get? b = some o
  liveM : ∀ i T h, M i T h → ∀ b ∈ wr, ∃ o, h.get? b = some o
  item : ∀ i (s : Shared) (Q : Option Value → Shared → Prop) (E : Value → Shared → Prop), i < n → W i s.heap →
    (∀ v u h' tk, P i v u → h'.get? s.heap.objs.size = some (tplO #[v, u] 0) → M i s.heap.objs.size h' → (∀ b o, b ∉ wr → s.heap.get? b = some o → h'.get? b = some o) → Q (some (.ref s.heap.objs.size)) { s with heap := h', toks := tk }) →
    wpAny (model prog w) A (pyNext (.ref I)) Q E s
  done : ∀ (s : Shared) (Q : Option Value → Shared → Prop) (E : Value → Shared → Prop), W n s.heap →
    (∀ h' tk, (∀ b o, b ∉ wr → s.heap.get? b = some o → h'.get? b = some o) → Q none { s with heap := h', toks := tk }) → wpAny (model prog w) A (pyNext (.ref I)) Q E s
  self : ∀ i (s : Shared) (Q : Value → Shared → Prop) (E : Value → Shared → Prop), W i s.heap → Q (.ref I) s → wpAny (model prog w) A (pyIter (.ref I)) Q E s
noncomputable def TupTg (t : Expr) : Prop := ∃ elts k pos, t = .Tuple elts k pos
section
variable {B : Base}
set_option tactic.hygienic true in
theorem Itr.ofPrs {I : Addr} {fp wr : List Addr} {n : Nat} {P : Nat → Value → Value → Prop} {W : Nat → Heap → Prop} {M : Nat → Addr → Heap → Prop} {xs : List AV}
    (w : ∀ A : Around, A.handled = none → Prs B.prog B.w A I fp wr n P W M)
    (go : ∀ (A : Around) (elts : List Expr) (k : Nat) (pos : Pos) i T (s : Shared) (Q : Unit → Shared → Prop) (E : Value → Shared → Prop), M i T s.heap →
      (∀ h', W (i + 1) h' → (∀ b o, b ∉ wr → s.heap.get? b = some o → h'.get? b = some o) → Q () { s with heap := h' }) →
      wpAny (model B.prog B.w) A (letOwnedTupleGo (.Tuple elts k pos) (.ref I) (.ref T)) Q E s) (hn : xs.length = n)
    {R : St → Prop} (hR : ∀ (G G' : St), R G → (∀ b o, G.g b = some o → G'.g b = some o) → (∀ (i : Nat) p, G.al[i]? = some p → G'.al[i]? = some p) → R G')
    (hP : ∀ (G : St) (i : Nat) (x : AV) (v u : Value), R G → xs[i]? = some x → P i v u → ∃ y z, x = .tup [y, z] ∧ Rep B G y v ∧ Rep B G z u) : Itr B (.ref I) TupTg (· ∈ wr) xs fun k G h => W k h ∧ Wst B fp wr R G h where
  stay := fun k Y G H h G' H' h' ⟨a, b⟩ I I' st hY => by
    have keep : ∀ b ∈ fp, ∀ o, h.get? b = some o → h'.get? b = some o := fun c hc o e => by
      by_cases q : c ∈ wr
      · obtain ⟨x1, x2, x3, x4⟩ := b.own c q
        exact st.keep c o (hY c q) x1 x2 e
      · obtain ⟨o', x⟩ := b.fix c hc q
        have e1 := I.sub _ _ x
        rw [e] at e1; cases e1
        exact I'.sub _ _ (st.mono _ _ x)
    refine ⟨(w {} rfl).frame k h h' a keep, fun c hc => ?_, fun c hc q => ?_, ?_⟩
    · refine via fun R_ k_ => ?_
      obtain ⟨x1, x2, x3, o, x4⟩ := b.own c hc
      refine k_ ?_
      exact ⟨not_new st x1 (hY c hc) x4, x2, (st.ext c o x4 (hY c hc)).trans x3, o, st.keep c o (hY c hc) x1 x2 x4⟩
    · obtain ⟨o, x⟩ := b.fix c hc q
      exact ⟨o, st.mono _ _ x⟩
    · exact hR G G' b.rel st.mono fun i p e => st.alAt e
  item := fun A k s G H x hA hx ⟨a, b⟩ I Q E hQ => by
    have hk : k < n := by rw [← hn]; exact (List.getElem?_eq_some_iff.mp hx).1
    refine (w A hA).item k s Q E hk a fun v u h' tk hv hT hM kp => ?_
    have I1 := I.own (fun c hc => ⟨(b.own c hc).1, (b.own c hc).2.1, (b.own c hc).2.2.1⟩) kp
    have gT : G.g s.heap.objs.size = none := I.gNew (Nat.le_refl _)
    have I2 := I1.freeze hT (fun m => absurd (I.lt m) (Nat.lt_irrefl _)) (fun m => absurd (I.tabLt m) (Nat.lt_irrefl _)) fun o' e => by rw [gT] at e; cases e
    have mono : ∀ b o, G.g b = some o → (G.put s.heap.objs.size (tplO #[v, u] 0)).g b = some o := fun b o e => by
      simp only [St.put]
      split
      · rename_i q; subst q; rw [gT] at e; cases e
      · exact e
    have st : Step B (· ∈ wr) G s.heap (G.put s.heap.objs.size (tplO #[v, u] 0)) h' := by
      refine ⟨fun b o hb e => ⟨o, kp b o hb e⟩, mono, fun b o e hb => ?_, ⟨[], (List.append_nil _).symm, fun q_ hm => (List.not_mem_nil hm).elim⟩, fun b o hb q_ q_ e => kp b o hb e⟩
      simp only [St.put]
      rw [if_neg (Nat.ne_of_lt (Heap.lt_size e))]
    have R' := hR G _ b.rel mono fun q_ q_ e => e
    obtain ⟨y, z, rfl, ry, rz⟩ := hP _ k x v u R' hx hv
    refine hQ _ _ h' tk st I2 ⟨_, #[v, u], 0, rfl, St.put_at .., v, [u], rfl, ry, u, [], rfl, rz, rfl⟩ ?_
    rintro A' _ s' ⟨elts, kk, pos, rfl⟩ rfl Q' E' hQ'
    refine go A' elts kk pos k _ s' Q' E' hM fun h2 hW kp2 => ?_
    have own2 : ∀ c ∈ wr, c ∉ (G.put s.heap.objs.size (tplO #[v, u] 0)).adr ∧ c ∉ B.tabP ∧ (G.put s.heap.objs.size (tplO #[v, u] 0)).g c = none := fun c hc => by
      refine via fun R_ k_ => ?_
      obtain ⟨x1, x2, x3, o, x4⟩ := b.own c hc
      refine k_ ?_
      refine ⟨x1, x2, ?_⟩
      simp only [St.put]
      rw [if_neg (Nat.ne_of_lt (Heap.lt_size x4))]; exact x3
    refine hQ' _ h2 s'.toks (Step.own kp2) (I2.own own2 kp2) ⟨hW, fun c hc => ⟨(own2 c hc).1, (own2 c hc).2.1, (own2 c hc).2.2, (w A hA).liveW _ _ hW c hc⟩, fun c hc q => ?_, R'⟩
    obtain ⟨o, x⟩ := b.fix c hc q
    exact ⟨o, mono _ _ x⟩
  self := fun A k s G hA ⟨a, b⟩ Q E hQ => (w A hA).self k s Q E a hQ
  done := fun A s G H hA ⟨a, b⟩ I Q E hQ => by
    rw [hn] at a
    refine (w A hA).done s Q E a fun h' tk kp => ?_
    exact hQ G h' tk (Step.own kp) (I.own (fun c hc => ⟨(b.own c hc).1, (b.own c hc).2.1, (b.own c hc).2.2.1⟩) kp)
end
section
variable {prog : Program} {w : World} {A : Around} {E : Value → Shared → Prop} {s : Shared}
noncomputable abbrev Zap (z TI TO i1 i2 : Addr) : Prop := ZipApart z TI TO i1 i2 TI TI
theorem zipD_next {z TI TO i1 i2 : Addr} {n1 n2 k : Nat} {P1 P2 : Nat → Value → Prop} {S1 S2 : Nat → Heap → Prop} {a b : Value} {Q : Value → Shared → Prop} (D : Zap z TI TO i1 i2)
    (D1 : Draws prog w A i1 [i1] n1 P1 S1) (D2 : Draws prog w A i2 [i2] n2 P2 S2) (h1 : k < n1) (h2 : k < n2)
    (hz : IsZip s.heap z TI TO .none) (hTI : IsPair s.heap TI (.ref i1) (.ref i2)) (hTO : IsPair s.heap TO a b) (s1 : S1 k s.heap) (s2 : S2 k s.heap)
    (hQ : ∀ x y h' tk, P1 k x → P2 k y → IsZip h' z TI TO (rawInt s.heap.objs.size) → IsPair h' TO x y → S1 (k + 1) h' → S2 (k + 1) h' → IsPair h' s.heap.objs.size x y →
      (∀ c o, c ≠ z → c ≠ TO → c ≠ i1 → c ≠ i2 → s.heap.get? c = some o → h'.get? c = some o) → Q (.ref s.heap.objs.size) { s with heap := h', toks := tk }) :
    wpAny (model prog w) A (Builtin.«zip.__next__» ⟨[.ref z], []⟩) (fun fin s' => ∃ v, fin = .done (.ret v) ∧ Q v s') E s := by
  have fr1 : ∀ {i : Nat} {h h' : Heap}, S1 i h → (∀ o, h.get? i1 = some o → h'.get? i1 = some o) → S1 i h' := fun st hk => D1.frame _ _ _ st fun c hc o e => by
    rw [List.mem_singleton] at hc; subst hc; exact hk o e
  have fr2 : ∀ {i : Nat} {h h' : Heap}, S2 i h → (∀ o, h.get? i2 = some o → h'.get? i2 = some o) → S2 i h' := fun st hk => D2.frame _ _ _ st fun c hc o e => by
    rw [List.mem_singleton] at hc; subst hc; exact hk o e
  show wpAny _ _ (field (.ref z) 2 >>= _) _ _ _
  refine wpAny_bind (wpAny_field hz rfl (x := .bool false) rfl ?_)
  show wpAny _ _ (field (.ref z) 3 >>= _) _ _ _
  refine wpAny_bind (wpAny_field hz rfl (x := .ref TI) rfl (wpAny_bind (wpAny_seqItems hTI rfl ?_)))
  show wpAny _ _ (Builtin.SmallTypes.ownedTupleIsFree (.ref z) >>= _) _ _ _
  refine wpAny_bind ?_
  unfold Builtin.SmallTypes.ownedTupleIsFree
  refine wpAny_bind (wpAny_field hz rfl (x := .none) rfl (wpAny_pure ?_))
  simp only [if_true]
  refine wpAny_bind (wpAny_rule (wpAny_bind (wpAny_field hz rfl (x := .ref TO) rfl ?_)))
  refine wpAny_bind (wpAny_setField_rec hz (by simp) fun g1 z1 q1 => ?_)
  replace z1 : IsZip g1 z TI TO .ellipsis := z1
  refine wpAny_bind ?_
  simp only [List.zipIdx_cons, List.zipIdx_nil, List.forIn_cons, List.forIn_nil]
  refine wpAny_bind (wpAny_bind (wpAny_onRaise ?_))
  show wpAny _ _ (Builtin.SmallTypes.nextOf (.ref i1) >>= _) _ _ _
  refine wpAny_bind (D1.item k _ _ _ h1 (fr1 s1 fun o e => q1.extBut _ _ D.i1z e) fun x g2 t2 px s1' q2 => wpAny_pure ?_)
  replace q2 : Heap.SameBut i1 g1 g2 := q2
  have o2 : IsPair g2 TO a b := q2.extBut _ _ D.TOi1 (q1.extBut _ _ D.TOz hTO)
  refine wpAny_bind (wpAny_seqItems o2 rfl (wpAny_bind (wpAny_updateSeq_pair o2 fun g3 o3 q3 => ?_)))
  replace o3 : IsPair g3 TO x b := o3
  replace q3 : Heap.SameBut TO g2 g3 := q3
  refine wpAny_bind (wpAny_letGo (wpAny_pure (wpAny_bind (wpAny_bind (wpAny_onRaise ?_)))))
  show wpAny _ _ (Builtin.SmallTypes.nextOf (.ref i2) >>= _) _ _ _
  refine wpAny_bind (D2.item k _ _ _ h2 (fr2 s2 fun o e => q3.extBut _ _ D.TOi2.symm (q2.extBut _ _ D.i12.symm (q1.extBut _ _ D.i2z e))) fun y g4 t4 py s2' q4 => wpAny_pure ?_)
  replace q4 : Heap.SameBut i2 g3 g4 := q4
  have o4 : IsPair g4 TO x b := q4.extBut _ _ D.TOi2 o3
  refine wpAny_bind (wpAny_seqItems o4 rfl (wpAny_bind (wpAny_updateSeq_pair o4 fun g5 o5 q5 => ?_)))
  replace o5 : IsPair g5 TO x y := o5
  replace q5 : Heap.SameBut TO g4 g5 := q5
  refine wpAny_bind (wpAny_letGo (wpAny_pure (wpAny_pure (wpAny_bind (wpAny_seqItems o5 rfl (wpAny_bind (wpAny_newTuple ?_)))))))
  have sz : g5.objs.size = s.heap.objs.size := by rw [q5.1, q4.1, q3.1, q2.1, q1.1]
  have z5 : IsZip g5 z TI TO .ellipsis := q5.extBut _ _ D.TOz.symm (q4.extBut _ _ D.i2z.symm (q3.extBut _ _ D.TOz.symm (q2.extBut _ _ D.i1z.symm z1)))
  have zl : z < g5.objs.size := Heap.lt_size z5
  show wpAny _ _ (Builtin.SmallTypes.ownedTupleHandOut (.ref z) (.ref g5.objs.size) >>= _) _ _ _
  refine wpAny_bind ?_
  unfold Builtin.SmallTypes.ownedTupleHandOut
  have z6 : IsZip (g5.push { cls := .type "tuple", data := .seq #[x, y] }) z TI TO .ellipsis := Heap.get?_push_of_some _ z5
  refine wpAny_bind (wpAny_setField_rec z6 (by simp) fun g7 z7 q7 => ?_)
  replace z7 : IsZip g7 z TI TO (rawInt g5.objs.size) := z7
  refine wpAny_setField_rec z7 (by simp) fun g8 z8 q8 => ?_
  replace z8 : IsZip g8 z TI TO (rawInt g5.objs.size) := z8
  have up : ∀ c o, c ≠ z → g5.get? c = some o → g8.get? c = some o := fun c o c1 e => q8.extBut _ _ c1 (q7.extBut _ _ c1 (Heap.get?_push_of_some _ e))
  have T8 : IsPair g8 g5.objs.size x y := q8.extBut _ _ (Nat.ne_of_gt zl) (q7.extBut _ _ (Nat.ne_of_gt zl) (Heap.get?_push_size _ rfl))
  rw [sz] at z8 T8
  refine wpAny_pure ⟨_, rfl, ?_⟩
  show Q (.ref g5.objs.size) _
  rw [sz]
  exact hQ x y g8 _ px py z8 (up _ _ D.TOz o5) (fr1 s1' fun o e => up _ o D.i1z (q5.extBut _ _ D.TOi1.symm (q4.extBut _ _ D.i12 (q3.extBut _ _ D.TOi1.symm e))))
    (fr2 s2' fun o e => up _ o D.i2z (q5.extBut _ _ D.TOi2.symm e)) T8 fun c o c1 c2 c3 c4 e => up c o c1 (q5.extBut _ _ c2 (q4.extBut _ _ c4 (q3.extBut _ _ c2 (q2.extBut _ _ c3 (q1.extBut _ _ c1 e)))))
theorem zipD_end {z TI TO i1 i2 : Addr} {n1 n2 k : Nat} {P1 P2 : Nat → Value → Prop} {S1 S2 : Nat → Heap → Prop} {a b : Value} {Q : Fin → Shared → Prop} (D : Zap z TI TO i1 i2)
    (D1 : Draws prog w A i1 [i1] n1 P1 S1) (D2 : Draws prog w A i2 [i2] n2 P2 S2) (hk : k = min n1 n2)
    (hz : IsZip s.heap z TI TO .none) (hTI : IsPair s.heap TI (.ref i1) (.ref i2)) (hTO : IsPair s.heap TO a b) (s1 : S1 k s.heap) (s2 : S2 k s.heap)
    (hE : ∀ h' tk e, (∀ c o, c ≠ z → c ≠ TO → c ≠ i1 → c ≠ i2 → s.heap.get? c = some o → h'.get? c = some o) → (∃ o, h'.get? e = some o ∧ o.cls = .type "StopIteration") → E (.ref e) { s with heap := h', toks := tk }) :
    wpAny (model prog w) A (Builtin.«zip.__next__» ⟨[.ref z], []⟩) Q E s := by
  have fr1 : ∀ {i : Nat} {h h' : Heap}, S1 i h → (∀ o, h.get? i1 = some o → h'.get? i1 = some o) → S1 i h' := fun st hk => D1.frame _ _ _ st fun c hc o e => by
    rw [List.mem_singleton] at hc; subst hc; exact hk o e
  have fr2 : ∀ {i : Nat} {h h' : Heap}, S2 i h → (∀ o, h.get? i2 = some o → h'.get? i2 = some o) → S2 i h' := fun st hk => D2.frame _ _ _ st fun c hc o e => by
    rw [List.mem_singleton] at hc; subst hc; exact hk o e
  show wpAny _ _ (field (.ref z) 2 >>= _) _ _ _
  refine wpAny_bind (wpAny_field hz rfl (x := .bool false) rfl ?_)
  show wpAny _ _ (field (.ref z) 3 >>= _) _ _ _
  refine wpAny_bind (wpAny_field hz rfl (x := .ref TI) rfl (wpAny_bind (wpAny_seqItems hTI rfl ?_)))
  show wpAny _ _ (Builtin.SmallTypes.ownedTupleIsFree (.ref z) >>= _) _ _ _
  refine wpAny_bind ?_
  unfold Builtin.SmallTypes.ownedTupleIsFree
  refine wpAny_bind (wpAny_field hz rfl (x := .none) rfl (wpAny_pure ?_))
  simp only [if_true]
  refine wpAny_bind (wpAny_rule (wpAny_bind (wpAny_field hz rfl (x := .ref TO) rfl ?_)))
  refine wpAny_bind (wpAny_setField_rec hz (by simp) fun g1 z1 q1 => ?_)
  replace z1 : IsZip g1 z TI TO .ellipsis := z1
  refine wpAny_bind ?_
  simp only [List.zipIdx_cons, List.zipIdx_nil, List.forIn_cons, List.forIn_nil]
  refine wpAny_bind (wpAny_bind (wpAny_onRaise ?_))
  show wpAny _ _ (Builtin.SmallTypes.nextOf (.ref i1) >>= _) _ _ _
  have s1q := fr1 s1 fun o e => q1.extBut _ _ D.i1z e
  by_cases e1 : k = n1
  · subst e1
    refine wpAny_bind (D1.done _ _ _ s1q fun g2 e q2 he => ?_)
    obtain ⟨oe, hoe, hce⟩ := he
    have z2 : IsZip g2 z TI TO .ellipsis := q2 _ _ D.i1z.symm z1
    have hez : e ≠ z := fun x => by subst x; rw [z2] at hoe; cases hoe; simp at hce
    refine wpAny_setField_rec z2 (by simp) fun g3 q_ q3 => hE g3 s.toks e (fun c o c1 q_ c3 q_ x => q3.extBut _ _ c1 (q2 _ _ c3 (q1.extBut _ _ c1 x))) ⟨oe, q3.extBut _ _ hez hoe, hce⟩
  · have e2 : k = n2 := by omega
    have l1 : k < n1 := by omega
    refine wpAny_bind (D1.item k _ _ _ l1 s1q fun x g2 t2 px s1' q2 => wpAny_pure ?_)
    replace q2 : Heap.SameBut i1 g1 g2 := q2
    have o2 : IsPair g2 TO a b := q2.extBut _ _ D.TOi1 (q1.extBut _ _ D.TOz hTO)
    refine wpAny_bind (wpAny_seqItems o2 rfl (wpAny_bind (wpAny_updateSeq_pair o2 fun g3 o3 q3 => ?_)))
    replace q3 : Heap.SameBut TO g2 g3 := q3
    refine wpAny_bind (wpAny_letGo (wpAny_pure (wpAny_bind (wpAny_bind (wpAny_onRaise ?_)))))
    show wpAny _ _ (Builtin.SmallTypes.nextOf (.ref i2) >>= _) _ _ _
    have s2q := fr2 s2 fun o e => q3.extBut _ _ D.TOi2.symm (q2.extBut _ _ D.i12.symm (q1.extBut _ _ D.i2z e))
    subst e2
    refine wpAny_bind (D2.done _ _ _ s2q fun g4 e q4 he => ?_)
    obtain ⟨oe, hoe, hce⟩ := he
    have z4 : IsZip g4 z TI TO .ellipsis := q4 _ _ D.i2z.symm (q3.extBut _ _ D.TOz.symm (q2.extBut _ _ D.i1z.symm z1))
    have hez : e ≠ z := fun x => by subst x; rw [z4] at hoe; cases hoe; simp at hce
    refine wpAny_setField_rec z4 (by simp) fun g5 q_ q5 => hE g5 _ e (fun c o c1 c2 c3 c4 x => q5.extBut _ _ c1 (q4 _ _ c4 (q3.extBut _ _ c2 (q2.extBut _ _ c3 (q1.extBut _ _ c1 x))))) ⟨oe, q5.extBut _ _ hez hoe, hce⟩
end
end
section
set_option Elab.async false
set_option autoImplicit false
set_option linter.unusedVariables false
set_option tactic.hygienic false
set_option genSizeOf false
set_option genInjectivity false
open PySem PySem.W PyProof.Rows PySem.Calls
noncomputable abbrev strIt (x : Str) (t : Tok) : Obj := { cls := .type (strIterType x), data := .fields #[.str x t, .int 0 0] }
noncomputable abbrev zs1 (h : Heap) (x : Str) (t : Tok) : Heap := h.push (strIt x t)
noncomputable abbrev zs2 (h : Heap) (x y : Str) (t u : Tok) : Heap := (zs1 h x t).push (strIt y u)
noncomputable abbrev zs3 (h : Heap) (x y : Str) (t u : Tok) : Heap := (zs2 h x y t u).push { cls := .type "tuple", data := .seq #[.ref h.objs.size, .ref (zs1 h x t).objs.size] }
noncomputable abbrev zs4 (h : Heap) (x y : Str) (t u : Tok) : Heap := (zs3 h x y t u).push { cls := .type "tuple", data := .seq #[.none, .none] }
noncomputable abbrev zs5 (h : Heap) (x y : Str) (t u : Tok) : Heap := (zs4 h x y t u).push { cls := .type "zip", data := .fields #[.none, .bool false, .bool false, .ref (zs2 h x y t u).objs.size, .ref (zs3 h x y t u).objs.size] }
set_option maxHeartbeats 2000000 in
theorem zip_newS (x y : Str) (t u : Tok) :
    Meets (Builtin.«zip.__new__» ⟨[.type "zip", .str x t, .str y u], []⟩) (fun q_ R s => R (.ok (.ret (.ref (zs4 s.heap x y t u).objs.size))) { s with heap := zs5 s.heap x y t u }) :=
  .of_wp fun prog w A R s h => by
    refine via fun R_ k_ => ?_
    obtain ⟨hp, g, d, tk, os⟩ := s
    refine k_ ?_
    have hsub := sub_zip
    wp_walk using wpAny_pyIter_strU
    exact ⟨_, rfl, h⟩
section
variable {prog : Program} {w : World} {A : Around} {E : Value → Shared → Prop} {s : Shared}
theorem call_zipS {x y : Str} {t u : Tok} {Q : Value → Shared → Prop}
    (h : ∀ h', IsZip h' (s.heap.objs.size + 4) (s.heap.objs.size + 2) (s.heap.objs.size + 3) .none → IsPair h' (s.heap.objs.size + 2) (.ref s.heap.objs.size) (.ref (s.heap.objs.size + 1)) →
      IsPair h' (s.heap.objs.size + 3) .none .none → h'.get? s.heap.objs.size = some (strIt x t) → h'.get? (s.heap.objs.size + 1) = some (strIt y u) →
      (∀ c o, s.heap.get? c = some o → h'.get? c = some o) → Q (.ref (s.heap.objs.size + 4)) { s with heap := h' }) :
    wpAny (model prog w) A (call (.type "zip") [.str x t, .str y u]) Q E s := by
  refine callType_new F.called_zip (by decide) (F.typeCall_zip_2 _ _) (F.newCall_zip_2 _ _) (fun obj => F.args_object_init_3 obj _ _) F.entry_zip_new (zip_newS x y t u) ?_
  have z1 : (zs1 s.heap x t).objs.size = s.heap.objs.size + 1 := Heap.size_push ..
  have z2 : (zs2 s.heap x y t u).objs.size = s.heap.objs.size + 2 := by rw [Heap.size_push, z1]
  have z3 : (zs3 s.heap x y t u).objs.size = s.heap.objs.size + 3 := by rw [Heap.size_push, z2]
  have z4 : (zs4 s.heap x y t u).objs.size = s.heap.objs.size + 4 := by rw [Heap.size_push, z3]
  have g5 : (zs5 s.heap x y t u).get? (zs4 s.heap x y t u).objs.size = some _ := Heap.get?_push_size _ rfl
  have g4 : (zs5 s.heap x y t u).get? (zs3 s.heap x y t u).objs.size = some _ := Heap.get?_push_of_some _ (Heap.get?_push_size _ rfl)
  have g3 : (zs5 s.heap x y t u).get? (zs2 s.heap x y t u).objs.size = some _ := Heap.get?_push_of_some _ (Heap.get?_push_of_some _ (Heap.get?_push_size _ rfl))
  have g2 : (zs5 s.heap x y t u).get? (zs1 s.heap x t).objs.size = some _ := Heap.get?_push_of_some _ (Heap.get?_push_of_some _ (Heap.get?_push_of_some _ (Heap.get?_push_size _ rfl)))
  have g1 : (zs5 s.heap x y t u).get? s.heap.objs.size = some _ := Heap.get?_push_of_some _ (Heap.get?_push_of_some _ (Heap.get?_push_of_some _ (Heap.get?_push_of_some _ (Heap.get?_push_size _ rfl))))
  show _ ∧ _
  rw [z2, z3, z4] at g5
  rw [z1, z2] at g3
  rw [z3] at g4
  rw [z1] at g2
  rw [z4]
  exact ⟨⟨_, g5, rfl⟩, h _ g5 g3 g4 g1 g2 fun c o x =>
    Heap.get?_push_of_some _ (Heap.get?_push_of_some _ (Heap.get?_push_of_some _ (Heap.get?_push_of_some _ (Heap.get?_push_of_some _ x))))⟩
theorem letGo_zip {elts : List Expr} {x1} {pos : Pos} {z TI TO T : Addr} {Q : Unit → Shared → Prop} (hz : IsZip s.heap z TI TO (rawInt T))
    (hQ : ∀ h', IsZip h' z TI TO .none → Heap.SameBut z s.heap h' → Q () { s with heap := h' }) :
    wpAny (model prog w) A (letOwnedTupleGo (.Tuple elts x1 pos) (.ref z) (.ref T)) Q E s := wpAny_letOwnedTupleGo_zip hz hQ
set_option tactic.hygienic true in
theorem drawsStr (hh : A.handled = none) (it : Addr) (x : Str) (t : Tok) : Draws prog w A it [it] x.cps.size (fun i v => SignAt x i v) (fun i h => h.IsStrIter it (strIterType x) x t i) := by
  by_cases ha : strIterType x = "str_ascii_iterator"
  · rw [ha]
    have D := Draws.strAscii (prog := prog) (w := w) hh it x t
    exact ⟨D.live, D.frame, fun i s Q E hi st hQ => D.item i s Q E hi st fun v h' tk ⟨c, u, e, e'⟩ st' sb => hQ v h' tk ⟨c, u, e, e'⟩ st' sb, D.done⟩
  · have hb : strIterType x = "str_iterator" := by
      unfold strIterType at ha ⊢
      split at ha
      · exact absurd rfl ha
      · rename_i q; rw [if_neg q]
    rw [hb]
    have D := Draws.strWide (prog := prog) (w := w) hh it x t
    exact ⟨D.live, D.frame, fun i s Q E hi st hQ => D.item i s Q E hi st fun v h' tk ⟨c, u, e, e'⟩ st' sb => hQ v h' tk ⟨c, u, e, e'⟩ st' sb, D.done⟩
end
theorem Prs.zip {prog : Program} {w : World} {A : Around} (hh : A.handled = none) {z TI TO i1 i2 : Addr} (D : Zap z TI TO i1 i2) (x y : Str) (t u : Tok) :
    Prs prog w A z [z, TI, TO, i1, i2] [z, TO, i1, i2] (min x.cps.size y.cps.size) (fun i v v' => SignAt x i v ∧ SignAt y i v')
      (fun i h => IsZip h z TI TO .none ∧ IsPair h TI (.ref i1) (.ref i2) ∧ (∃ a b, IsPair h TO a b) ∧ h.IsStrIter i1 (strIterType x) x t i ∧ h.IsStrIter i2 (strIterType y) y u i)
      (fun i T h => IsZip h z TI TO (rawInt T) ∧ IsPair h TI (.ref i1) (.ref i2) ∧ (∃ a b, IsPair h TO a b) ∧ h.IsStrIter i1 (strIterType x) x t (i + 1) ∧ h.IsStrIter i2 (strIterType y) y u (i + 1)) where
  frame := fun i h h' ⟨hz, hTI, ⟨a, b, hTO⟩, ⟨o1, h1, r1⟩, ⟨o2, h2, r2⟩⟩ hk =>
    ⟨hk z (by simp) _ hz, hk TI (by simp) _ hTI, ⟨a, b, hk TO (by simp) _ hTO⟩, ⟨o1, hk i1 (by simp) _ h1, r1⟩, ⟨o2, hk i2 (by simp) _ h2, r2⟩⟩
  liveW := fun i h ⟨hz, hTI, ⟨a, b, hTO⟩, ⟨o1, h1, _⟩, ⟨o2, h2, _⟩⟩ c hc => by
    simp only [List.mem_cons, List.not_mem_nil, or_false] at hc
    rcases hc with rfl | rfl | rfl | rfl
    · exact ⟨_, hz⟩
    · exact ⟨_, hTO⟩
    · exact ⟨_, h1⟩
    · exact ⟨_, h2⟩
  liveM := fun i T h ⟨hz, hTI, ⟨a, b, hTO⟩, ⟨o1, h1, _⟩, ⟨o2, h2, _⟩⟩ c hc => by
    simp only [List.mem_cons, List.not_mem_nil, or_false] at hc
    rcases hc with rfl | rfl | rfl | rfl
    · exact ⟨_, hz⟩
    · exact ⟨_, hTO⟩
    · exact ⟨_, h1⟩
    · exact ⟨_, h2⟩
  item := fun i s Q E hi ⟨hz, hTI, ⟨a, b, hTO⟩, h1, h2⟩ hQ => by
    have hT : s.TypeIs (.ref z) "zip" := ⟨_, hz, rfl⟩
    unfold pyNext
    refine wpAny_bind (wpAny_attempt (wpAny_callSpecial?_slot (name := Str.ofString "__next__") hT F.slot_zip_next
      (wpAny_call_entry F.slot_zip_next hT F.entry_zip_next (zipD_next D (drawsStr (A := A.in1) hh i1 x t) (drawsStr (A := A.in1) hh i2 y u) (by omega) (by omega) hz hTI hTO h1 h2
        fun v v' h' tk p1 p2 a1 a2 a3 a4 a5 hk => wpAny_pure ?_) (F.args_zip_next_1 _))))
    exact hQ v v' h' tk ⟨p1, p2⟩ a5 ⟨a1, hk _ _ D.TIz D.TITO D.TIi1 D.TIi2 hTI, ⟨_, _, a2⟩, a3, a4⟩ fun c o hc e =>
      hk c o (fun q => hc (by simp [q])) (fun q => hc (by simp [q])) (fun q => hc (by simp [q])) (fun q => hc (by simp [q])) e
  done := fun s Q E ⟨hz, hTI, ⟨a, b, hTO⟩, h1, h2⟩ hQ => by
    have hT : s.TypeIs (.ref z) "zip" := ⟨_, hz, rfl⟩
    unfold pyNext
    refine wpAny_bind (wpAny_attempt (wpAny_callSpecial?_slot (name := Str.ofString "__next__") hT F.slot_zip_next
      (wpAny_call_entry F.slot_zip_next hT F.entry_zip_next (zipD_end D (drawsStr (A := A.in1) hh i1 x t) (drawsStr (A := A.in1) hh i2 y u) rfl hz hTI hTO h1 h2 fun h' tk e hk he => ?_) (F.args_zip_next_1 _))))
    obtain ⟨o, ho, hc⟩ := he
    refine wpAny_bind (wpAny_isInstance (T := "StopIteration") (b := true) ⟨o, ho, hc⟩ isSubtype_stop ?_)
    exact wpAny_pure (hQ _ _ fun c o hc e => hk c o (fun q => hc (by simp [q])) (fun q => hc (by simp [q])) (fun q => hc (by simp [q])) (fun q => hc (by simp [q])) e)
  self := fun i s Q E hst hQ => wpAny_pyIter_zip hst.1 hQ
section
variable {B : Base} {A : Around} {G : St} {H : AH} {s : Shared}
theorem iter_range {a b : Int} {r : Addr} {t u v : Tok} (I : Inv B G H s.heap) (hr : IsRange s.heap r a b 1 t u v) (ha : small a = true) (hb : small b = true) :
    Iters B A (fun q_ => True) (pyIter (.ref r)) G H (rangeOf a b) s := fun Q E hQ => by
  unfold small bits at ha hb
  simp only [Bool.and_eq_true, decide_eq_true_eq] at ha hb
  refine wpAny_pyIter_range hr (small_one (by omega) (by omega) (by omega) (by omega)) ?_
  obtain ⟨st, I', own⟩ := push_itr (B := B) I (o := { cls := .type "range_iterator", data := .fields #[rawInt a, rawInt (Builtin.Range.rangeSize a b 1), rawInt 1] }) rfl
  have W := Itr.ofWalks (B := B) (xs := rangeOf a b) (fun A (hA : A.handled = none) => Walks.range (prog := B.prog) (w := B.w) (A := A) hA s.heap.objs.size a 1 (b - a).toNat) (by unfold rangeOf; simp)
    (fun k h st b hb => by
      rw [List.mem_singleton] at hb; subst hb
      exact ⟨_, st⟩) (fun k h st => ⟨_, st, rfl⟩) (by decide) (R := fun q_ => True) (fun q_ q_ q_ q_ q_ => trivial)
    (fun G i x v q_ hx hv => by
      obtain ⟨t, rfl⟩ := hv
      unfold rangeOf at hx
      rw [List.getElem?_map] at hx
      obtain ⟨j, hj, rfl⟩ := Option.map_eq_some_iff.mp hx
      obtain ⟨_, q⟩ := List.getElem?_eq_some_iff.mp hj
      rw [List.getElem_range] at q; subst q
      exact ⟨t, by simp⟩)
  refine hQ _ _ _ G _ s.toks st I' W ⟨?_, fun b hb => ?_, fun b hb hb' => absurd hb hb', trivial⟩ fun b hb => ?_
  · show IsRangeIter _ _ (a + ((0 : Nat) : Int) * 1) (((b - a).toNat : Int) - ((0 : Nat) : Int)) 1
    have e1 : a + ((0 : Nat) : Int) * 1 = a := by simp
    have e2 : (((b - a).toNat : Int) - ((0 : Nat) : Int)) = Builtin.Range.rangeSize a b 1 := by rw [rangeSize_nat]; simp
    rw [e1, e2]
    exact Heap.get?_push_size _ rfl
  · rw [List.mem_singleton] at hb; subst hb; exact own
  · rw [List.mem_singleton] at hb; subst hb
    exact ⟨Heap.get?_end _, own.2.2.2⟩
theorem repD_pairs : ∀ {kvs : List (Int × AV)} {es : List DictEntry}, RepD B G kvs es → ∃ l : List (Int × Value), l.map (·.1) = kvs.map (·.1) ∧ (∀ e ∈ es, ∃ k, (intKind B.prog B.w).is k e.key = true ∧ e.hash = (intKind B.prog B.w).hash k) ∧ Pairs (intKind B.prog B.w) es l
  | [], es, r => ⟨[], rfl, by rw [show es = [] from r]; exact ⟨fun q_ h => (List.not_mem_nil h).elim, .nil⟩⟩
  | p :: kvs, es, r => by
    obtain ⟨e, t, u, rfl, ek, eh, rv, rr⟩ := r
    obtain ⟨l, h1, h2, h3⟩ := repD_pairs rr
    have hk : (intKind B.prog B.w).is p.1 e.key = true := by
      rw [ek]; show Value.isInt p.1 (.int p.1 t) = true
      simp [Value.isInt]
    refine ⟨(p.1, e.val) :: l, by simp [h1], fun x hx => ?_, .cons hk rfl h3⟩
    rcases List.mem_cons.mp hx with rfl | hx
    · exact ⟨p.1, hk, eh⟩
    · exact h2 x hx
theorem iter_dct {kvs : List (Int × AV)} {v : Value} (I : Inv B G H s.heap) (hn : (kvs.map (·.1)).Nodup) (r : Rep B G (.dct kvs) v) : Iters B A (fun q_ => True) (pyIter v) G H (kvs.map fun p => .int p.1) s := fun Q E hQ => by
  obtain ⟨a, es, n, rfl, g, hs, rd⟩ := r
  have ho := I.sub _ _ g
  obtain ⟨l, h1, h2, h3⟩ := repD_pairs rd
  have hd : s.heap.DictAt (intKind B.prog B.w) a l n := ⟨_, es, ho, ⟨rfl, rfl, rfl⟩, rfl, fun e he => h2 e (by simpa using he), h3, by rw [h1]; exact hn⟩
  refine wpAny_pyIter_dict hs hd ?_
  obtain ⟨st, I', own⟩ := push_itr (B := B) I (o := { cls := .type "dict_keyiterator", data := .fields #[.ref a, .int 0 0, .int l.length 0, .int n 0] }) rfl
  have hl : l.length = kvs.length := by have := congrArg List.length h1; simpa using this
  have W := Itr.ofWalks (B := B) (xs := kvs.map fun p => .int p.1) (fun A (hA : A.handled = none) => Walks.dictKeys (knd := intKind B.prog B.w) (A := A) hA s.heap.objs.size a (ne_end ho) l n) (by simp [hl])
    (fun k h st b hb => by
      rw [List.mem_singleton] at hb; subst hb
      obtain ⟨o, e, _⟩ := st.1
      exact ⟨o, e⟩) (fun k h st => let ⟨o, e, c, _⟩ := st.1; ⟨o, e, c⟩) (by decide) (R := fun G => ∃ o, G.g a = some o) (fun G G' ⟨o, e⟩ k ka => ⟨o, k _ _ e⟩)
    (fun G i x v q_ hx hv => by
      obtain ⟨k, y, e, hk⟩ := hv
      obtain ⟨t, rfl⟩ := Value.isInt_shape hk
      rw [List.getElem?_map] at hx
      obtain ⟨p, hp, rfl⟩ := Option.map_eq_some_iff.mp hx
      have q : (l.map (·.1))[i]? = (kvs.map (·.1))[i]? := by rw [h1]
      rw [List.getElem?_map, List.getElem?_map, e, hp] at q
      cases q
      exact ⟨t, rfl⟩)
  refine hQ _ _ _ G _ s.toks st I' W ⟨⟨⟨_, Heap.get?_push_size _ rfl, rfl, rfl⟩, hd.keep fun b o e => Heap.get?_push_of_some _ e⟩, fun b hb => ?_, fun b hb hb' => ?_, _, g⟩ fun b hb => ?_
  · rw [List.mem_singleton] at hb; subst hb; exact own
  · rcases List.mem_cons.mp hb with q | q
    · exact absurd (by rw [q]; exact List.mem_singleton_self _) hb'
    · rw [List.mem_singleton] at q; subst q; exact ⟨_, g⟩
  · rw [List.mem_singleton] at hb; subst hb
    exact ⟨Heap.get?_end _, own.2.2.2⟩
end
end
section
set_option Elab.async false
set_option autoImplicit false
set_option linter.unusedVariables false
set_option tactic.hygienic false
set_option genSizeOf false
set_option genInjectivity false
open PySem PySem.W PyProof.Rows PySem.Calls
section
variable {M : Model} {A : Around} {E : Value → Shared → Prop} {s : Shared} {env : Env}
theorem not_i {a : Bool} (h : (!a) = true) : a = false := by cases a; rfl; cases h
theorem noStar_trees : ∀ {es : List Expr} {p : Pos}, (es.all fun e => !isStar e) = true → (backTo p (starEach es env)).any (·.1) = false ∧ (backTo p (starEach es env)).length = es.length
  | [], _, _ => ⟨rfl, rfl⟩
  | e :: es, p, h => by
    rw [List.all_cons, Bool.and_eq_true] at h
    obtain ⟨a, b⟩ := noStar_trees (es := es) (p := p) h.2
    rw [starEach_cons (not_i h.1)]
    refine ⟨?_, ?_⟩
    · show (false || (backTo p (starEach es env)).any (·.1)) = false
      rw [a]; rfl
    · show (backTo p (starEach es env)).length + 1 = _
      rw [b]; rfl
theorem evalArgs_of {f : Value} {args : List (Bool × Sem Value)} {Q : Args → Shared → Prop} (hp : args.any (·.1) = false)
    (h : wpAny M A (spliced args) (fun vs s' => Q ⟨vs, []⟩ s') E s) : wpAny M A (evalArgs f true args []) Q E s := by
  have fin : wpAny M A (spliced args >>= fun vs => (do
      let (pos, late) := (vs, (none : Option Value))
      holding (pos ++ late.toList) (do
        let kw ← (do let ks ← evalAll []; pure (([] : List Str).zip ks))
        pure (Args.mk pos kw)))) Q E s :=
    wpAny_bind (wpAny_mono h (fun vs s' h' => wpAny_holding (wpAny_bind (wpAny_bind (wpAny_evalAll_nil (wpAny_pure (wpAny_pure h')))))) fun q_ q_ x => x)
  cases args with
  | nil =>
    unfold evalArgs
    show wpAny M A (spliced [] >>= _) Q E s
    refine wpAny_bind (wpAny_mono h (fun vs s' h' => ?_) fun q_ q_ x => x)
    refine wpAny_bind (wpAny_pure ?_)
    refine wpAny_holding ?_
    exact wpAny_bind (wpAny_pure (wpAny_bind (wpAny_pure (wpAny_pure h'))))
  | cons a r =>
    obtain ⟨b, t⟩ := a
    cases b with
    | true => cases hp
    | false => exact evalArgs_plain h
inductive Callee (h : Heap) : Value → Prop
  | builtin (id : String) : Callee h (.builtin id)
  | type (T : String) : Callee h (.type T)
  | func {a : Addr} {o : Obj} {fd : FuncData} (ho : h.get? a = some o) (hd : o.data = .func fd) : Callee h (.ref a)
  | cls {C : Addr} {cr : CR} {bm ab newId} (hC : h.get? C = some (cr.obj C bm ab newId)) : Callee h (.ref C)
end
section
variable {prog : Program} {w : World} {A : Around} {E : Value → Shared → Prop} {s : Shared} {env : Env}
set_option tactic.hygienic true in
theorem callWith_any {pos : Pos} {f : Value} {args : List (Bool × Sem Value)} {Q : Value → Shared → Prop} (hp : args.any (·.1) = false)
    (h : wpAny (model prog w) A (spliced args) (fun vs s₁ => Callee s₁.heap f ∧ wpAny (model prog w) A (call f vs) Q E s₁) E s) :
    wpAny (model prog w) A (callWith pos f [] args []) Q E s := by
  have tail : ∀ {t : Sem Value} {s₁ : Shared}, wpAny (model prog w) A t Q E s₁ → wpAny (model prog w) A (t >>= fun r => holding [r] point >>= fun q_ => pure r) Q E s₁ :=
    fun ht => wpAny_bind (wpAny_mono ht (fun r s₂ hr => wpAny_bind (wpAny_holding (wpAny_point (wpAny_pure hr)))) fun q_ q_ x => x)
  unfold callWith
  refine wpAny_bind (wpAny_holding (evalArgs_of hp (wpAny_mono h (fun vs s₁ h₁ => wpAny_bind (wpAny_standAt ?_)) fun q_ q_ x => x)))
  obtain ⟨hc, hcall⟩ := h₁
  cases hc with
  | builtin id =>
    simp only [hp, List.any_nil, Bool.or_false, List.nil_append]
    exact wpAny_bind (wpAny_pure (tail hcall))
  | type T =>
    simp only [hp, List.any_nil, Bool.or_false, List.nil_append]
    exact wpAny_bind (wpAny_pure (tail hcall))
  | func ho hd =>
    rename_i a o fd
    simp only [hp, List.any_nil, Bool.or_false, List.nil_append]
    refine wpAny_bind (m := keeperOf (.ref a)) ?_
    unfold keeperOf
    refine wpAny_bind (wpAny_load ho ?_)
    rw [hd]
    refine wpAny_pure ?_
    show wpAny (model prog w) A (if args.length + 2 * ([] : List (Option Str × Sem Value)).length > 30 then (call (.ref a) vs [] >>= fun r => holding [r] point >>= fun q_ => pure r)
      else (callMarked plainCall (.ref a) vs [] >>= fun r => holding [r] point >>= fun q_ => pure r)) Q E s₁
    split
    · exact tail hcall
    · exact tail (by unfold callMarked; exact wpAny_keep hcall)
  | cls hC =>
    rename_i C cr bm ab newId
    have hst : (args.any (fun x => x.fst) || ([] : List (Option Str × Sem Value)).any fun x => x.fst.isNone) = false := by rw [hp]; rfl
    refine via fun R_ k_ => ?_
    obtain ⟨hh, g, d, t, os⟩ := s₁
    refine k_ ?_
    have f1 := tc_lookup
    have hT : (⟨hh, g, d, t, os⟩ : Shared).TypeIs (.ref C) "type" := ⟨_, hC, rfl⟩
    show wpAny _ _ (keeperOf (.ref C) >>= _) _ _ _
    unfold keeperOf specialOf
    repeat (any_goals (first | assumption | with_reducible refine wpAny_loadPart_at hC ?_ | with_reducible refine wpAny_load' hC ?_ | wp_step))
    rw [if_pos (by rfl), hst]
    show wpAny _ _ (call (.ref C) vs [] >>= fun r => do holding [r] point; pure r) _ _ _
    exact tail hcall
end
end
section
set_option Elab.async false
set_option autoImplicit false
set_option linter.unusedVariables false
set_option tactic.hygienic false
set_option genSizeOf false
set_option genInjectivity false
open PySem PySem.W PyProof.Rows PySem.Calls
set_option tactic.hygienic true in
theorem cells_some (x : Str) : ∀ (names : List (Str × NameKind)) (n : Nat) (acc : List (Str × Addr)), ((x, NameKind.cell) ∈ names ∨ (acc.lookup x).isSome = true) → ((cellsFrom n names acc).lookup x).isSome = true
  | [], n, acc, h => by
    rcases h with h | h
    · cases h
    · exact h
  | (y, k) :: r, n, acc, h => by
    unfold cellsFrom
    split
    · rename_i hk
      refine cells_some x r _ _ ?_
      rcases h with h | h
      · rcases List.mem_cons.mp h with e | h
        · cases e
          right
          rw [List.lookup_cons, beq_self_eq_true]; rfl
        · exact .inl h
      · right
        rw [List.lookup_cons]
        split
        · rfl
        · exact h
    · rename_i hk
      refine cells_some x r _ _ ?_
      rcases h with h | h
      · rcases List.mem_cons.mp h with e | h
        · cases e; exact absurd rfl hk
        · exact .inl h
      · exact .inr h
section
variable {kindOf : Str → Option NameKind}
theorem bindL_other : ∀ (l : List (Str × Value)) (m : Str → Option Value) (n : Str), n ∉ l.map (·.1) → bindL kindOf l m n = m n
  | [], m, n, _ => rfl
  | (x, v) :: r, m, n, h => by
    rw [List.map_cons, List.mem_cons, not_or] at h
    unfold bindL
    rw [bindL_other r _ n h.2]
    split
    · exact if_neg h.1
    · rfl
theorem bindC_other : ∀ (l : List (Str × Value)) (m : Str → Option Value) (n : Str), n ∉ l.map (·.1) → bindC kindOf l m n = m n
  | [], m, n, _ => rfl
  | (x, v) :: r, m, n, h => by
    rw [List.map_cons, List.mem_cons, not_or] at h
    unfold bindC
    rw [bindC_other r _ n h.2]
    split
    · rfl
    · exact if_neg h.1
theorem bindL_at : ∀ (l : List (Str × Value)) (m : Str → Option Value) (n : Str) (v : Value), (l.map (·.1)).Nodup → (n, v) ∈ l → kindOf n = some .local → bindL kindOf l m n = some v
  | [], _, _, _, _, h, _ => by cases h
  | (x, u) :: r, m, n, v, hn, h, hk => by
    rw [List.map_cons, List.nodup_cons] at hn
    unfold bindL
    rcases List.mem_cons.mp h with e | h
    · cases e
      rw [bindL_other r _ _ hn.1, if_pos hk]
      exact if_pos rfl
    · exact bindL_at r _ n v hn.2 h hk
theorem bindC_at : ∀ (l : List (Str × Value)) (m : Str → Option Value) (n : Str) (v : Value), (l.map (·.1)).Nodup → (n, v) ∈ l → kindOf n ≠ some .local → bindC kindOf l m n = some v
  | [], _, _, _, _, h, _ => by cases h
  | (x, u) :: r, m, n, v, hn, h, hk => by
    rw [List.map_cons, List.nodup_cons] at hn
    unfold bindC
    rcases List.mem_cons.mp h with e | h
    · cases e
      rw [bindC_other r _ _ hn.1, if_neg hk]
      exact if_pos rfl
    · exact bindC_at r _ n v hn.2 h hk
end
set_option tactic.hygienic true in
theorem freezeCells {B : Base} {H : AH} {h : Heap} (cm : Str → Option Value) : ∀ (l : List (Str × Addr)) (G : St), Inv B G H h → (l.Pairwise fun x y => x.2 ≠ y.2) →
    (∀ n c, (n, c) ∈ l → c ∉ G.adr ∧ c ∉ B.tabP ∧ G.g c = none ∧ h.IsCell c (cm n)) →
    ∃ G', Inv B G' H h ∧ G'.al = G.al ∧ (∀ b o, G.g b = some o → G'.g b = some o) ∧ (∀ b, b ∉ l.map (·.2) → G'.g b = G.g b) ∧ (∀ n c, (n, c) ∈ l → cm n = none → G'.g c = none) ∧
      ∀ n c, (n, c) ∈ l → ∀ v, cm n = some v → ∃ o, G'.g c = some o ∧ o.data = .cell (some v)
  | [], G, I, _, _ => ⟨G, I, rfl, fun q_ q_ e => e, fun q_ q_ => rfl, fun q_ q_ h => (List.not_mem_nil h).elim, fun q_ q_ h => (List.not_mem_nil h).elim⟩
  | (n, c) :: r, G, I, pw, hc => by
    refine via fun R_ k_ => ?_
    obtain ⟨p1, p2⟩ := List.pairwise_cons.mp pw
    obtain ⟨a1, a2, a3, o, ho, hd⟩ := hc n c List.mem_cons_self
    refine k_ ?_
    have cr : c ∉ r.map (·.2) := fun hm => by
      obtain ⟨q, hq, e⟩ := List.mem_map.mp hm
      exact p1 q hq e.symm
    cases hv : cm n with
    | none =>
      refine via fun R_ k_ => ?_
      obtain ⟨G', b1, b2, b3, b4, b5, b6⟩ := freezeCells cm r G I p2 fun n' c' hm => hc n' c' (List.mem_cons_of_mem _ hm)
      refine k_ ?_
      refine ⟨G', b1, b2, b3, fun b hb => b4 b fun q => hb (List.mem_cons_of_mem _ q), fun n' c' hm e => ?_, fun n' c' hm v e => ?_⟩
      · rcases List.mem_cons.mp hm with q | hm
        · cases q; rw [b4 c cr, a3]
        · exact b5 n' c' hm e
      · rcases List.mem_cons.mp hm with q | hm
        · cases q; rw [hv] at e; cases e
        · exact b6 n' c' hm v e
    | some v =>
      have I1 := I.freeze ho a1 a2 fun o' e => by rw [a3] at e; cases e
      have other : ∀ b, b ≠ c → (G.put c o).g b = G.g b := fun b hb => by simp only [St.put]; rw [if_neg hb]
      obtain ⟨G', b1, b2, b3, b4, b5, b6⟩ := freezeCells cm r (G.put c o) I1 p2 fun n' c' hm => by
        obtain ⟨x1, x2, x3, x4⟩ := hc n' c' (List.mem_cons_of_mem _ hm)
        have hne : c' ≠ c := fun q => p1 (n', c') hm q.symm
        exact ⟨x1, x2, by rw [other c' hne]; exact x3, x4⟩
      refine ⟨G', b1, b2, fun b o' e => b3 b o' ?_, fun b hb => ?_, fun n' c' hm e => ?_, fun n' c' hm v' e => ?_⟩
      · simp only [St.put]
        split
        · rename_i q; subst q; rw [a3] at e; cases e
        · exact e
      · rw [List.map_cons, List.mem_cons, not_or] at hb
        rw [b4 b hb.2, other b hb.1]
      · rcases List.mem_cons.mp hm with q | hm
        · cases q; rw [hv] at e; cases e
        · exact b5 n' c' hm e
      · rcases List.mem_cons.mp hm with q | hm
        · cases q
          rw [hv] at e; cases e
          exact ⟨o, b3 _ _ (St.put_at ..), by rw [hd, hv]⟩
        · exact b6 n' c' hm v' e
structure FnCore (B : Base) (a : Addr) (fd : FuncData) (T : Tabs) (names : List (List Nat)) (np : Nat) : Prop where
  obj : ∃ o, B.h₀.get? a = some o ∧ o.data = .func fd
  tab : a ∉ B.tabP
  tg : T.gnames = B.T.gnames
  tm : T.mnames = B.T.mnames
  clo : fd.closure = []
  glb : fd.globals = mainGlobals
  blt : fd.builtins = builtinsNs
  hnp : np ≤ names.length
  sc : scopeOk fd.scope names = true
  free : ∀ p ∈ fd.scope.names, p.2 ≠ .free
  par : ∀ n ∈ names.take np, isKind fd.scope (toS n) .local = true ∨ isKind fd.scope (toS n) .cell = true
  code : ∃ c oc fs t, fd.code = .ref c ∧ B.h₀.get? c = some oc ∧ c ∉ B.tabP ∧ oc.data = .fields fs ∧ fs[1]? = some (.str fd.qualname t)
section
variable {B : Base} {G : St} {H : AH}
theorem kindOf_callEnv {fd : FuncData} {L a : Addr} (x : Str) : (callEnvC fd L a).kindOf x = fd.scope.names.lookup x := rfl
theorem frOK_top {a : Addr} {fd : FuncData} {T : Tabs} {names : List (List Nat)} {np : Nat} (C : FnCore B a fd T names np) {args : List AV} {F : AF} (eF : frameOf names.length np args [] = some F)
    {vs : List Value} {s s₁ : Shared} (I : Inv B G H s.heap) (rs : RepL B G args vs)
    (X : InCallC s (callEnvC fd s.heap.objs.size a).locals (bindL (callEnvC fd s.heap.objs.size a).kindOf (((names.take np).map toS).zip vs) fun q_ => none) (callEnvC fd s.heap.objs.size a).cells
      (bindC (callEnvC fd s.heap.objs.size a).kindOf (((names.take np).map toS).zip vs) fun q_ => none) s₁) :
    ∃ G', Inv B G' H s₁.heap ∧ Step B Pure G s.heap G' s₁.heap ∧ FrOK B T fd.scope names (callEnvC fd s.heap.objs.size a) F G' s₁.heap := by
  have S := scopeOk_iff C.sc
  obtain ⟨ea, rfl⟩ := frame_some eF
  have hvl : vs.length = np := by rw [rs.len, ea]
  have hnl : ((names.take np).map toS).length = np := by
    rw [List.length_map, List.length_take]; have := C.hnp; omega
  have nd : ((names.take np).map toS).Nodup := List.Pairwise.map toS (fun a b (q : a ≠ b) q' => q (toS_inj.mp q')) (List.Nodup.sublist (List.take_sublist _ _) S.nod)
  have zk : (((names.take np).map toS).zip vs).map (·.1) = (names.take np).map toS := zip_keys (by omega)
  have zmem : ∀ {i : Nat} {n : List Nat} {v : Value}, names[i]? = some n → i < np → vs[i]? = some v → (toS n, v) ∈ ((names.take np).map toS).zip vs := fun {i n v} hn hi hv => by
    refine List.mem_of_getElem? (i := i) ?_
    rw [List.getElem?_zip_eq_some]
    exact ⟨by rw [List.getElem?_map, List.getElem?_take_of_lt hi, hn]; rfl, hv⟩
  have znot : ∀ {i : Nat} {n : List Nat}, names[i]? = some n → np ≤ i → toS n ∉ (((names.take np).map toS).zip vs).map (·.1) := fun {i n} hn hi hm => by
    rw [zk] at hm
    obtain ⟨y, hy, e⟩ := List.mem_map.mp hm
    rw [toS_inj] at e; subst e
    obtain ⟨j, hj⟩ := List.mem_iff_getElem?.mp hy
    have hj' : j < np := by
      rcases Nat.lt_or_ge j np with q | q
      · exact q
      · rw [List.getElem?_take_eq_none q] at hj; cases hj
    rw [List.getElem?_take_of_lt hj'] at hj
    have := nodup_at S.nod hj hn
    omega
  have keep := X.toInCall.keep
  have I1 : Inv B G H s₁.heap := I.keeps fun b o q_ e => keep b o e
  have fresh : ∀ b, s.heap.objs.size ≤ b → G.g b = none ∧ b ∉ G.adr ∧ b ∉ B.tabP ∧ s.heap.get? b = none := fun b hb =>
    ⟨I.gNew hb, fun m => absurd (I.lt m) (Nat.not_lt.mpr hb), fun m => absurd (I.tabLt m) (Nat.not_lt.mpr hb), Heap.get?_none_of_le hb⟩
  have above : ∀ n c, (n, c) ∈ (callEnvC fd s.heap.objs.size a).cells → s.heap.objs.size < c := fun n c hm => X.above n c hm
  let l : List (Str × Addr) := (callEnvC fd s.heap.objs.size a).cells.filter fun p => decide ((callEnvC fd s.heap.objs.size a).cells.lookup p.1 = some p.2)
  have lmem : ∀ n c, (n, c) ∈ l ↔ (n, c) ∈ (callEnvC fd s.heap.objs.size a).cells ∧ (callEnvC fd s.heap.objs.size a).cells.lookup n = some c := fun n c => by
    show (n, c) ∈ List.filter _ _ ↔ _
    rw [List.mem_filter]; simp
  obtain ⟨G', b1, b2, b3, b4, b5, b6⟩ := freezeCells (bindC (callEnvC fd s.heap.objs.size a).kindOf (((names.take np).map toS).zip vs) fun q_ => none) l G I1
    (List.Pairwise.sublist List.filter_sublist X.apart) fun n c hm => by
      obtain ⟨h1, h2⟩ := (lmem n c).mp hm
      have hc := Nat.le_of_lt (above n c h1)
      exact ⟨(fresh c hc).2.1, (fresh c hc).2.2.1, (fresh c hc).1, X.cell n c h2⟩
  have hLl : (callEnvC fd s.heap.objs.size a).locals ∉ l.map (·.2) := fun hm => by
    obtain ⟨⟨n, c⟩, hq, e⟩ := List.mem_map.mp hm
    have := above n c ((lmem n c).mp hq).1
    have e' : c = s.heap.objs.size := e
    rw [e'] at this
    exact absurd this (Nat.lt_irrefl _)
  have adr' : G'.adr = G.adr := by unfold St.adr; rw [b2]
  have repm : ∀ {x : AV} {v : Value}, Rep B G x v → Rep B G' x v := fun r => Rep.mono b3 (fun i p e => by rw [b2]; exact e) r
  have st : Step B Pure G s.heap G' s₁.heap := by
    refine ⟨fun b o q_ e => ⟨o, keep b o e⟩, b3, fun b o e q_ => b4 b fun hm => ?_, ⟨[], by rw [b2, List.append_nil], fun q_ hm => (List.not_mem_nil hm).elim⟩, fun b o q_ q_ q_ e => keep b o e⟩
    obtain ⟨⟨n, c⟩, hq, e'⟩ := List.mem_map.mp hm
    have h1 := above n c ((lmem n c).mp hq).1
    have e2 : c = b := e'
    rw [e2] at h1
    exact absurd (Heap.lt_size e) (Nat.not_lt.mpr (Nat.le_of_lt h1))
  have argAt : ∀ {i : Nat} {v : AV}, ((args.map some) ++ List.replicate (names.length - np) none : AF)[i]? = some (some v) → i < np ∧ args[i]? = some v := fun {i v} hv => by
    have hi : i < args.length := by
      rcases Nat.lt_or_ge i args.length with h | h
      · exact h
      · rw [List.getElem?_append_right (by rw [List.length_map]; exact h)] at hv
        have := List.mem_of_getElem? hv
        rw [List.mem_replicate] at this
        cases this.2
    rw [List.getElem?_append_left (by rw [List.length_map]; exact hi), List.getElem?_map] at hv
    cases ha : args[i]? with
    | none => rw [ha] at hv; cases hv
    | some x => rw [ha] at hv; cases hv; exact ⟨by omega, rfl⟩
  refine ⟨G', b1, st, C.tg, C.tm, fun x e => isKind_iff.mp e, fun x e => isKind_iff.mp e, fun x e => .inl (isKind_iff.mp e), fun x e => isKind_iff.mp e, S.kind, C.glb, C.blt, S.nod, ?_, ?_, ?_, ?_, ⟨_, X.toInCall.ns, ?_⟩, ?_, ?_, ?_⟩
  · show (putCaps _ []).length = _
    rw [putCaps_len, List.length_append, List.length_map, List.length_replicate]; have := C.hnp; omega
  · rw [b4 _ hLl]; exact (fresh _ (Nat.le_refl _)).1
  · rw [adr']; exact (fresh _ (Nat.le_refl _)).2.1
  · exact (fresh _ (Nat.le_refl _)).2.2.1
  · intro i n hn hk v hv
    obtain ⟨hi, ha⟩ := argAt hv
    obtain ⟨u, hu, ru⟩ := repL_get rs i v ha
    exact ⟨u, bindL_at _ _ _ _ (by rw [zk]; exact nd) (zmem hn hi hu) (isKind_iff.mp hk), repm ru⟩
  · intro i n hn hk
    have hc : isKind fd.scope (toS n) .cell = true := by
      rcases hk with hk | hk
      · exact hk
      · exact absurd rfl (C.free _ (mem_of_lookup (isKind_iff.mp hk)))
    have hs := cells_some (toS n) fd.scope.names (s.heap.objs.size + 1) [] (.inl (mem_of_lookup (isKind_iff.mp hc)))
    obtain ⟨c, ec⟩ := Option.isSome_iff_exists.mp hs
    have ec' : (callEnvC fd s.heap.objs.size a).cells.lookup (toS n) = some c := ec
    have hm : (toS n, c) ∈ l := (lmem _ _).mpr ⟨mem_of_lookup ec', ec'⟩
    have hcl := Nat.le_of_lt (above _ _ (mem_of_lookup ec'))
    refine ⟨c, ec', ?_⟩
    have hnl : (callEnvC fd s.heap.objs.size a).kindOf (toS n) ≠ some .local := fun q => by
      have q' : fd.scope.names.lookup (toS n) = some .local := q
      rw [isKind_iff.mp hc] at q'; cases q'
    have unset : np ≤ i → (isKind fd.scope (toS n) .cell = true ∧ (∃ o, s₁.heap.get? c = some o ∧ o.data = .cell none) ∧ G'.g c = none ∧ c ∉ G'.adr ∧ c ∉ B.tabP ∧ c ≠ (callEnvC fd s.heap.objs.size a).locals) := fun hi => by
      have hcm := bindC_other (kindOf := (callEnvC fd s.heap.objs.size a).kindOf) (((names.take np).map toS).zip vs) (fun q_ => none) (toS n) (znot hn hi)
      have hx := X.cell _ _ ec'
      rw [hcm] at hx
      refine ⟨hc, hx, b5 _ _ hm hcm, by rw [adr']; exact (fresh c hcl).2.1, (fresh c hcl).2.2.1, fun q => ?_⟩
      have q' : c = s.heap.objs.size := q
      have := above _ _ (mem_of_lookup ec')
      rw [q'] at this
      exact absurd this (Nat.lt_irrefl _)
    show CelOk B G' s₁.heap fd.scope _ (toS n) c (((args.map some) ++ List.replicate (names.length - np) none : AF)[i]?)
    rcases Nat.lt_or_ge i np with hi | hi
    · have hia : i < args.length := by omega
      rw [List.getElem?_append_left (by rw [List.length_map]; exact hia), List.getElem?_map, List.getElem?_eq_getElem hia]
      obtain ⟨u, hu, ru⟩ := repL_get rs i args[i] (List.getElem?_eq_getElem hia)
      obtain ⟨o, g1, g2⟩ := b6 _ _ hm u (bindC_at _ _ _ _ (by rw [zk]; exact nd) (zmem hn hi hu) hnl)
      exact ⟨o, u, g1, g2, repm ru⟩
    · have hil : i < names.length := (List.getElem?_eq_some_iff.mp hn).1
      rw [List.getElem?_append_right (by rw [List.length_map]; omega), List.length_map, List.getElem?_replicate]
      rw [if_pos (by omega)]
      exact unset hi
  · rintro b (hb | ⟨x, hx, hb⟩)
    · refine via fun R_ k_ => ?_
      obtain ⟨o, _, _, e, _⟩ := X.toInCall.ns
      refine k_ ?_
      exact ⟨o, by rw [hb]; exact e⟩
    · obtain ⟨o, e, _⟩ := X.cell _ _ hb
      exact ⟨o, e⟩
  · intro x y c hx hy ex ey
    exact name_of_addr X.apart (mem_of_lookup ex) (mem_of_lookup ey)
end
end
section
set_option Elab.async false
set_option autoImplicit false
set_option linter.unusedVariables false
set_option tactic.hygienic false
set_option genSizeOf false
set_option genInjectivity false
open PySem PySem.W PyProof.Rows PySem.Calls
structure SrcOk (B : Base) : Prop where
  rng : B.mg (toS [114, 97, 110, 103, 101]) = none ∧ B.mb (toS [114, 97, 110, 103, 101]) = some (.type "range")
  zip : B.mg (toS [122, 105, 112]) = none ∧ B.mb (toS [122, 105, 112]) = some (.type "zip")
section
variable {B : Base} {A : Around} {T : Tabs} {sc : Scope} {ns : List (List Nat)} {env : Env} {F : AF}
theorem abind_eq {α β : Type} {m : AM α} {f : α → AM β} {H H1 : AH} {x : α} (e : m H = some (x, H1)) : abind m f H = f x H1 := by
  unfold abind
  rw [e]
theorem name_bi {x : Str} {p : Pos} {v : Value} {s : Shared} {G : St} {H : AH} {Q : Value → Shared → Prop} {E : Value → Shared → Prop} (O : BaseOk B) (P : FrOK B T sc ns env F G s.heap) (I : Inv B G H s.heap)
    (hk : isKind sc x .globalImplicit = true) (h1 : (x == ("__debug__" : Str)) = false) (b1 : B.mg x = none) (b2 : B.mb x = some v) (q : Q v s) : wpAny (model B.prog B.w) A (eval (.Name x p) env) Q E s := by
  refine wpAny_Name ?_ h1
  rw [loadName_read P.kind (P.kg _ hk)]
  have g1 : s.heap.Ns env.globals B.mg := P.glb ▸ I.ns O.glbT O.glb
  have g2 : s.heap.Ns env.builtins B.mb := P.blt ▸ I.ns O.bltT O.blt
  exact loadGlobal_builtin g1 b1 g2 b2 q
theorem noStar1 {x : Expr} {p : Pos} (hs : isStar x = false) : (backTo p (starEach [x] env)).any (·.1) = false :=
  (noStar_trees (es := [x]) (p := p) (by rw [List.all_cons, hs]; rfl)).1
theorem noStar2 {x y : Expr} {p : Pos} (hs : isStar x = false) (ht : isStar y = false) : (backTo p (starEach [x, y] env)).any (·.1) = false :=
  (noStar_trees (es := [x, y]) (p := p) (by rw [List.all_cons, List.all_cons, hs, ht]; rfl)).1
theorem call1 {x : Str} {p pos : Pos} {e : Expr} {m : AM AV} {ty : String} (O : BaseOk B) (hk : isKind sc x .globalImplicit = true) (h1 : (x == ("__debug__" : Str)) = false)
    (b1 : B.mg x = none) (b2 : B.mb x = some (.type ty)) (hs : isStar e = false) (ha : EvE B A T sc ns env F e m)
    {s : Shared} {G : St} {H H1 : AH} {z : AV} {Q : Value → Shared → Prop} {E : Value → Shared → Prop} (P : FrOK B T sc ns env F G s.heap) (I : Inv B G H s.heap) (eq : m H = some (z, H1))
    (h : ∀ v G' h' tk', Step B Pure G s.heap G' h' → Inv B G' H1 h' → FrOK B T sc ns env F G' h' → Rep B G' z v → wpAny (model B.prog B.w) A (call (.type ty) [v]) Q E { s with heap := h', toks := tk' }) :
    wpAny (model B.prog B.w) A (eval (.Call (.Name x p) [e] [] pos) env) Q E s := by
  refine wpAny_Call_NameR (name_bi O P I hk h1 b1 b2 (callWith_any (noStar1 hs) ?_))
  refine evl_cons (p := pos) hs ha evl_nil s G H [z] H1 P I ?_ _ _ fun vs G1 h1 t1 s1 I1 P1 r1 => ⟨.type _, ?_⟩
  · rw [abind_eq eq]; rfl
  · obtain ⟨v, rfl, rv⟩ := repL_one r1
    exact h v G1 h1 t1 s1 I1 P1 rv
theorem call2 {x : Str} {p pos : Pos} {e e' : Expr} {m m' : AM AV} {ty : String} (O : BaseOk B) (hk : isKind sc x .globalImplicit = true) (h1 : (x == ("__debug__" : Str)) = false)
    (b1 : B.mg x = none) (b2 : B.mb x = some (.type ty)) (hs : isStar e = false) (hs' : isStar e' = false)
    (ha : EvE B A T sc ns env F e m) (hb : EvE B A T sc ns env F e' m')
    {s : Shared} {G : St} {H H1 H2 : AH} {z z' : AV} {Q : Value → Shared → Prop} {E : Value → Shared → Prop} (P : FrOK B T sc ns env F G s.heap) (I : Inv B G H s.heap) (eq : m H = some (z, H1)) (eq' : m' H1 = some (z', H2))
    (h : ∀ v u G' h' tk', Step B Pure G s.heap G' h' → Inv B G' H2 h' → FrOK B T sc ns env F G' h' → Rep B G' z v → Rep B G' z' u → wpAny (model B.prog B.w) A (call (.type ty) [v, u]) Q E { s with heap := h', toks := tk' }) :
    wpAny (model B.prog B.w) A (eval (.Call (.Name x p) [e, e'] [] pos) env) Q E s := by
  refine wpAny_Call_NameR (name_bi O P I hk h1 b1 b2 (callWith_any (noStar2 hs hs') ?_))
  refine evl_cons (p := pos) hs ha (evl_cons hs' hb evl_nil) s G H [z, z'] H2 P I ?_ _ _ fun vs G1 h1 t1 s1 I1 P1 r1 => ⟨.type _, ?_⟩
  · rw [abind_eq eq, abind_eq (abind_eq eq')]; rfl
  · obtain ⟨v, u, rfl, rv, ru⟩ := repL_two r1
    exact h v u G1 h1 t1 s1 I1 P1 rv ru
theorem evI_range1 {x : Str} {p pos : Pos} {e : Expr} {ma : AM AV} (O : BaseOk B) (K : SrcOk B) (hx : isS [114, 97, 110, 103, 101] x = true) (hk : isKind sc x .globalImplicit = true) (hs : isStar e = false) (ha : EvE B A T sc ns env F e ma) : EvI B A T sc ns env F (fun q_ => True) (.Call (.Name x p) [e] [] pos) (abind ma fun v => abind (aopt (toInt v)) fun i => abind (aopt (aif (small i = true) ())) fun q_ => apure (rangeOf 0 i)) := fun s G H xs H' P I eq Q E hQ => by
  rw [isS_eq hx] at hk ⊢
  obtain ⟨i, H1, e1, eq⟩ := abind_int eq
  obtain ⟨hsm, eq⟩ := abind_aif eq
  obtain ⟨rfl, rfl⟩ := apure_some eq
  refine call1 O hk (by decide +kernel) K.rng.1 K.rng.2 hs ha P I e1 fun v G1 h1 t1 s1 I1 P1 r1 => ?_
  obtain ⟨t, rfl⟩ := r1
  refine call_range_1 ?_
  have k : ∀ b o, h1.get? b = some o → (h1.push { cls := .type "range", data := .fields #[.int 0 t1, .int i t, .int 1 (t1 + 1)] }).get? b = some o := fun b o e => Heap.get?_push_of_some _ e
  have s2 : Step B Pure G1 h1 G1 _ := Step.priv k
  refine hQ _ _ _ _ (s1.trans s2) (I1.keeps fun b o q_ e => k b o e) (P1.step s2) fun A' s' hA' es => ?_
  refine via fun R_ k_ => ?_
  obtain ⟨hp', gg, dd, tt, oo⟩ := s'
  refine k_ ?_
  dsimp only at es
  subst es
  have I' := I1.keeps fun b o q_ e => k b o e
  exact (iter_range I' (IsRange.new ..) (by decide +kernel) hsm).toX fun b o e => (s1.live b o (fun q => q) e).elim fun o' e' => ⟨o', k b o' e'⟩
theorem evI_range2 {x : Str} {p pos : Pos} {e e' : Expr} {ma mb : AM AV} (O : BaseOk B) (K : SrcOk B) (hx : isS [114, 97, 110, 103, 101] x = true) (hk : isKind sc x .globalImplicit = true) (hs : isStar e = false) (hs' : isStar e' = false)
    (ha : EvE B A T sc ns env F e ma) (hb : EvE B A T sc ns env F e' mb) : EvI B A T sc ns env F (fun q_ => True) (.Call (.Name x p) [e, e'] [] pos) (abind ma fun v => abind mb fun w => abind (aopt (toInt v)) fun i => abind (aopt (toInt w)) fun j => abind (aopt (aif ((small i && small j) = true) ())) fun q_ => apure (rangeOf i j)) := fun s G H xs H' P I eq Q E hQ => by
  rw [isS_eq hx] at hk ⊢
  obtain ⟨z, H1, e1, eq⟩ := abind_some eq
  obtain ⟨z', H2, e2, eq⟩ := abind_some eq
  obtain ⟨i, q1, eq⟩ := abind_opt eq
  obtain ⟨j, q2, eq⟩ := abind_opt eq
  obtain ⟨hsm, eq⟩ := abind_aif eq
  obtain ⟨rfl, rfl⟩ := apure_some eq
  have q1 := toInt_some q1
  have q2 := toInt_some q2
  subst q1; subst q2
  have hsm := (Bool.and_eq_true _ _).mp hsm
  refine call2 O hk (by decide +kernel) K.rng.1 K.rng.2 hs hs' ha hb P I e1 e2 fun v u G1 h1 t1 s1 I1 P1 r1 r2 => ?_
  obtain ⟨t, rfl⟩ := r1
  obtain ⟨t', rfl⟩ := r2
  refine call_range_2 ?_
  have k : ∀ b o, h1.get? b = some o → (h1.push { cls := .type "range", data := .fields #[.int i t, .int j t', .int 1 t1] }).get? b = some o := fun b o e => Heap.get?_push_of_some _ e
  have s2 : Step B Pure G1 h1 G1 _ := Step.priv k
  refine hQ _ _ _ _ (s1.trans s2) (I1.keeps fun b o q_ e => k b o e) (P1.step s2) fun A' s' hA' es => ?_
  refine via fun R_ k_ => ?_
  obtain ⟨hp', gg, dd, tt, oo⟩ := s'
  refine k_ ?_
  dsimp only at es
  subst es
  have I' := I1.keeps fun b o q_ e => k b o e
  exact (iter_range I' (IsRange.new ..) hsm.1 hsm.2).toX fun b o e => (s1.live b o (fun q => q) e).elim fun o' e' => ⟨o', k b o' e'⟩
theorem zap_at (n : Nat) : Zap (n + 4) (n + 2) (n + 3) n (n + 1) := by
  constructor <;> (intro (h : (_ : Nat) = _); omega)
theorem evI_zip {x : Str} {p pos : Pos} {e e' : Expr} {ma mb : AM AV} (O : BaseOk B) (K : SrcOk B) (hx : isS [122, 105, 112] x = true) (hk : isKind sc x .globalImplicit = true) (hs : isStar e = false) (hs' : isStar e' = false)
    (ha : EvE B A T sc ns env F e ma) (hb : EvE B A T sc ns env F e' mb) : EvI B A T sc ns env F TupTg (.Call (.Name x p) [e, e'] [] pos) (abind ma fun v => abind mb fun w => abind (aopt (toStr v)) fun s => abind (aopt (toStr w)) fun t => apure (zipOf (s.map fun c => .str [c]) (t.map fun c => .str [c]))) := fun s G H xs H' P I eq Q E hQ => by
  rw [isS_eq hx] at hk ⊢
  obtain ⟨z, H1, e1, eq⟩ := abind_some eq
  obtain ⟨z', H2, e2, eq⟩ := abind_some eq
  obtain ⟨cs, q1, eq⟩ := abind_opt eq
  obtain ⟨ds, q2, eq⟩ := abind_opt eq
  obtain ⟨rfl, rfl⟩ := apure_some eq
  have q1 := toStr_some q1
  have q2 := toStr_some q2
  subst q1; subst q2
  refine call2 O hk (by decide +kernel) K.zip.1 K.zip.2 hs hs' ha hb P I e1 e2 fun v u G1 h1 t1 s1 I1 P1 r1 r2 => ?_
  obtain ⟨t, rfl⟩ := r1
  obtain ⟨t', rfl⟩ := r2
  refine call_zipS (s := { s with heap := h1, toks := t1 }) fun h2 hz hTI hTO hi1 hi2 k => ?_
  dsimp only at hz hTI hTO hi1 hi2 k
  have I2 : Inv B G1 H' h2 := I1.keeps fun b o q_ e => k b o e
  have off : ∀ b, h1.objs.size ≤ b → b ∉ G1.adr ∧ b ∉ B.tabP ∧ G1.g b = none ∧ h1.get? b = none := fun b hb => ⟨fun m => absurd (I1.lt m) (Nat.not_lt.mpr hb), fun m => absurd (I1.tabLt m) (Nat.not_lt.mpr hb), I1.gNew hb, Heap.get?_none_of_le hb⟩
  have I3 := I1.fresh (a := h1.objs.size + 2) k (off _ (by omega)).2.2.2 hTI
  have s3 := Step.fresh (h' := h2) I1 (a := h1.objs.size + 2) (o := { cls := .type "tuple", data := .seq #[.ref h1.objs.size, .ref (h1.objs.size + 1)] }) k (off _ (by omega)).2.2.2
  refine hQ _ _ _ _ (s1.trans s3) I3 (P1.step s3) fun A' s' hA' es => ?_
  subst es
  intro Q' E' hQ'
  refine wpAny_pyIter_zip hz ?_
  have W := Itr.ofPrs (B := B) (xs := zipOf (cs.map fun c => .str [c]) (ds.map fun c => .str [c])) (fun A (hA : A.handled = none) => Prs.zip (prog := B.prog) (w := B.w) (A := A) hA (z := h1.objs.size + 4) (TI := h1.objs.size + 2) (TO := h1.objs.size + 3) (i1 := h1.objs.size) (i2 := h1.objs.size + 1)
      (zap_at h1.objs.size) (toS cs) (toS ds) t t')
    (fun A elts kk pos i T s Q E hM hQ => by
      refine via fun R_ k_ => ?_
      obtain ⟨hz, hTI, ⟨a, b, hTO⟩, h1', h2'⟩ := hM
      refine k_ ?_
      refine wpAny_letOwnedTupleGo_zip hz fun h' hx hs => ?_
      exact hQ h' ⟨hx, (hs.2 _ (zap_at h1.objs.size).TIz).trans hTI, ⟨a, b, (hs.2 _ (zap_at h1.objs.size).TOz).trans hTO⟩, h1'.elim fun o y => ⟨o, (hs.2 _ (zap_at h1.objs.size).i1z).trans y.1, y.2⟩, h2'.elim fun o y => ⟨o, (hs.2 _ (zap_at h1.objs.size).i2z).trans y.1, y.2⟩⟩ fun b o hb y => (hs.2 b fun q => hb (by simp [q])).trans y)
    (by
      have q1 : (toS cs).cps.size = cs.length := by unfold toS; simp
      have q2 : (toS ds).cps.size = ds.length := by unfold toS; simp
      unfold zipOf; simp [q1, q2]) (R := fun q_ => True) (fun q_ q_ q_ q_ q_ => trivial)
    (fun G i x v u q_ hx hv => by
      unfold zipOf at hx
      rw [List.getElem?_map] at hx
      obtain ⟨p, hp, rfl⟩ := Option.map_eq_some_iff.mp hx
      obtain ⟨y, z⟩ := p
      rw [List.getElem?_zip_eq_some] at hp
      exact ⟨_, _, rfl, sign_rep hp.1 hv.1, sign_rep hp.2 hv.2⟩)
  have ne : ∀ b, b ≠ h1.objs.size + 2 → (G1.put (h1.objs.size + 2) { cls := .type "tuple", data := .seq #[.ref h1.objs.size, .ref (h1.objs.size + 1)] }).g b = G1.g b := fun b hb => by
    simp only [St.put]; rw [if_neg hb]
  have live : ∀ b ∈ [h1.objs.size + 4, h1.objs.size + 3, h1.objs.size, h1.objs.size + 1], ∃ o, s'.heap.get? b = some o := fun b hb => by
    simp only [List.mem_cons, List.not_mem_nil, or_false] at hb
    rcases hb with rfl | rfl | rfl | rfl
    · exact ⟨_, hz⟩
    · exact ⟨_, hTO⟩
    · exact ⟨_, hi1⟩
    · exact ⟨_, hi2⟩
  refine hQ' _ _ _ _ _ _ (Step.refl ..) I3 W ⟨⟨hz, hTI, ⟨_, _, hTO⟩, ⟨_, hi1, rfl, rfl⟩, ⟨_, hi2, rfl, rfl⟩⟩, fun b hb => ?_, fun b hb hb' => ?_, trivial⟩ fun b hb => ?_
  · have hge : h1.objs.size ≤ b ∧ b ≠ h1.objs.size + 2 := by
      simp only [List.mem_cons, List.not_mem_nil, or_false] at hb
      have D := zap_at h1.objs.size
      rcases hb with rfl | rfl | rfl | rfl
      · exact ⟨Nat.le_add_right _ _, D.TIz.symm⟩
      · exact ⟨Nat.le_add_right _ _, D.TITO.symm⟩
      · exact ⟨Nat.le_refl _, D.TIi1.symm⟩
      · exact ⟨Nat.le_add_right _ _, D.TIi2.symm⟩
    exact ⟨(off b hge.1).1, (off b hge.1).2.1, (ne b hge.2).trans (off b hge.1).2.2.1, live b hb⟩
  · simp only [List.mem_cons, List.not_mem_nil, or_false, not_or] at hb hb'
    rcases hb with q | q | q | q | q
    · exact absurd q hb'.1
    · rw [q]; exact ⟨_, St.put_at ..⟩
    · exact absurd q hb'.2.1
    · exact absurd q hb'.2.2.1
    · exact absurd q hb'.2.2.2
  · have hge : h1.objs.size ≤ b := by
      simp only [List.mem_cons, List.not_mem_nil, or_false] at hb
      rcases hb with rfl | rfl | rfl | rfl
      · exact Nat.le_add_right _ _
      · exact Nat.le_add_right _ _
      · exact Nat.le_refl _
      · exact Nat.le_add_right _ _
    refine ⟨?_, live b hb⟩
    cases q : s.heap.get? b with
    | none => rfl
    | some o =>
      obtain ⟨o', e'⟩ := s1.live b o (fun q => q) q
      exact absurd (Heap.lt_size e') (Nat.not_lt.mpr hge)
set_option tactic.hygienic true in
theorem evI_of {tg : Expr → Prop} {e : Expr} {ma : AM AV} (ha : EvE B A T sc ns env F e ma) (ht : ∀ t, tg t → True) {m : AM (List AV)} (hm : m = abind ma fun v => aopt (aiterOf v)) :
    EvI B A T sc ns env F (fun q_ => True) e m := fun s G H xs H' P I eq Q E hQ => by
  subst hm
  obtain ⟨z, H1, e1, eq⟩ := abind_some eq
  obtain ⟨e2, rfl⟩ := aopt_some eq
  refine ha s G H z H' P I e1 _ _ fun v G1 h1 t1 s1 I1 P1 r1 => hQ v G1 h1 t1 s1 I1 P1 fun A' s' hA' es => ?_
  subst es
  have lv : ∀ b o, s.heap.get? b = some o → ∃ o', s'.heap.get? b = some o' := fun b o e => s1.live b o (fun q => q) e
  unfold aiterOf at e2
  split at e2
  · cases e2; exact (iter_tup I1 r1).toX lv
  · cases e2; exact (iter_lst I1 r1).toX lv
  · cases e2; exact (iter_str I1 r1).toX lv
  · split at e2
    · rename_i hn
      cases e2
      exact (iter_dct I1 (of_decide_eq_true hn) r1).toX lv
    · cases e2
  · cases e2
end
end
section
set_option Elab.async false
set_option autoImplicit false
set_option linter.unusedVariables false
set_option tactic.hygienic false
set_option genSizeOf false
set_option genInjectivity false
open PySem PySem.W PyProof.Rows PySem.Calls
section
variable {prog : Program} {w : World} {A : Around} {E : Value → Shared → Prop} {s : Shared} {env : Env}
theorem callWith_fst {pos : Pos} {f : Value} {first : List Value} {args : List (Bool × Sem Value)} {Q : Value → Shared → Prop} (hp : args.any (·.1) = false)
    (h : wpAny (model prog w) A (spliced args) (fun vs s₁ => (∃ a o fd, f = .ref a ∧ s₁.heap.get? a = some o ∧ o.data = .func fd) ∧ wpAny (model prog w) A (call f (first ++ vs)) Q E s₁) E s) :
    wpAny (model prog w) A (callWith pos f first args []) Q E s := by
  have tail : ∀ {t : Sem Value} {s₁ : Shared}, wpAny (model prog w) A t Q E s₁ → wpAny (model prog w) A (t >>= fun r => holding [r] point >>= fun q_ => pure r) Q E s₁ :=
    fun ht => wpAny_bind (wpAny_mono ht (fun r s₂ hr => wpAny_bind (wpAny_holding (wpAny_point (wpAny_pure hr)))) fun q_ q_ x => x)
  unfold callWith
  refine wpAny_bind (wpAny_holding (evalArgs_of hp (wpAny_mono h (fun vs s₁ h₁ => wpAny_bind (wpAny_standAt ?_)) fun q_ q_ x => x)))
  obtain ⟨⟨a, o, fd, rfl, ho, hd⟩, hcall⟩ := h₁
  simp only [hp, List.any_nil, Bool.or_false]
  refine wpAny_bind (m := keeperOf (.ref a)) ?_
  unfold keeperOf
  refine wpAny_bind (wpAny_load ho ?_)
  rw [hd]
  refine wpAny_pure ?_
  show wpAny (model prog w) A (if args.length + 2 * ([] : List (Option Str × Sem Value)).length > 30 then (call (.ref a) (first ++ vs) [] >>= fun r => holding [r] point >>= fun q_ => pure r)
    else (callMarked plainCall (.ref a) (first ++ vs) [] >>= fun r => holding [r] point >>= fun q_ => pure r)) Q E s₁
  split
  · exact tail hcall
  · exact tail (by unfold callMarked; exact wpAny_keep hcall)
end
structure CallOK (B : Base) (A : Around) (call' : AV → List AV → AM AV) : Prop where
  pos : ∀ (s : Shared) (G : St) (H H' : AH) (f z : AV) (xs : List AV) (v : Value) (vs : List Value), ((∃ k, f = .fn k) ∨ (∃ c, f = .cls c ∧ ¬ (c = .limits ∧ xs ≠ []))) →
    Inv B G H s.heap → Rep B G f v → RepL B G xs vs → call' f xs H = some (z, H') → Callee s.heap v ∧ Yields B A (call v vs) G H H' z s
  kw : ∀ (s : Shared) (G : St) (H H' : AH) (z x : AV) (v u : Value), Inv B G H s.heap → Rep B G (.cls .limits) v → Rep B G x u → call' (.cls .limits) [x] H = some (z, H') →
    Callee s.heap v ∧ Yields B A (call v [] [(toS [115, 116, 101, 112, 115], u)]) G H H' z s
  fn : ∀ (s : Shared) (G : St) (H H' : AH) (k : Nat) (z : AV) (xs : List AV), Inv B G H s.heap → call' (.fn k) xs H = some (z, H') → ∃ o fd, s.heap.get? (B.fnA k) = some o ∧ o.data = .func fd
section
variable {B : Base} {A : Around} {T : Tabs} {sc : Scope} {ns : List (List Nat)} {env : Env} {F : AF} {call' : AV → List AV → AM AV}
theorem ev_call (C : CallOK B A call') (hA : A.handled = none) {g : Expr} {es : List Expr} {p : Pos} {mf : AM AV} {ms : AM (List AV)} (hg : isName g = true) (hs : (es.all fun e => !isStar e) = true)
    (hf : EvE B A T sc ns env F g mf) (hl : EvL B A T sc ns env F p es ms) :
    EvE B A T sc ns env F (.Call g es [] p) (abind mf fun x => abind ms fun xs => acallB call' x xs) := fun s G H z H' P I eq Q E hQ => by
  obtain ⟨x, H1, e1, eq⟩ := abind_some eq
  obtain ⟨xs, H2, e2, eq⟩ := abind_some eq
  obtain ⟨y, q, rfl, _⟩ := onName_i (f := _) hg
  · refine wpAny_Call_NameR (hf s G H x H1 P I e1 _ _ fun v G1 h1 t1 s1 I1 P1 r1 => callWith_any (noStar_trees hs).1 ?_)
    refine hl _ G1 H1 xs H2 P1 I1 e2 _ _ fun vs G2 h2 t2 s2 I2 P2 r2 => ?_
    have r1' := s2.rep r1
    have fin : ∀ {t : Sem Value}, Yields B A t G2 H2 H' z { s with heap := h2, toks := t2 } → wpAny (model B.prog B.w) A t Q E { s with heap := h2, toks := t2 } := fun y =>
      y.use P2 (s1.trans s2) fun v G' h' tk' => hQ v G' h' tk'
    cases x with
    | bi b =>
      obtain ⟨e3, rfl⟩ := aread_some (g := fun H => abi H b xs) eq
      rw [show v = _ from r1']
      refine ⟨?_, fin (op_bi e3 hA I2 r2)⟩
      cases b <;> first | exact .builtin _ | exact .type _
    | fn k =>
      obtain ⟨c, y⟩ := C.pos { s with heap := h2, toks := t2 } G2 H2 H' _ z xs v vs (.inl ⟨k, rfl⟩) I2 r1' r2 eq
      exact ⟨c, fin y⟩
    | cls c =>
      by_cases hc : c = .limits ∧ xs ≠ []
      · exact nos (α := AV × AH) ((congrFun (if_pos hc) H2).symm.trans eq)
      · obtain ⟨c, y⟩ := C.pos { s with heap := h2, toks := t2 } G2 H2 H' _ z xs v vs (.inr ⟨c, rfl, hc⟩) I2 r1' r2 ((congrFun (if_neg hc) H2).symm.trans eq)
        exact ⟨c, fin y⟩
    | _ => exact nos (α := AV × AH) eq
theorem base_same {o : Expr} {attr : Str} (h : isCall o = false) : attributeBase o attr env (eval o env) = eval o env := by
  cases o <;> first | rfl | cases h
theorem base_name {o : Expr} {attr : Str} (h : isName o = true) : attributeBase o attr env (eval o env) = eval o env := by
  obtain ⟨x, p, rfl, _⟩ := onName_i (f := _) h
  rfl
theorem few_args {es : List Expr} {pos : Pos} (hs : (es.all fun e => !isStar e) = true) (hl : es.length ≤ 10) :
    ((backTo pos (starEach es env)).all (fun x => !x.1) && (backToKw pos (keywordEach [] env)).all (fun x => x.1.isSome)
      && decide (es.length + ([] : List Keyword).length + (if ([] : List Keyword).isEmpty then 0 else 1) < 30)) = true := by
  have h1 := (noStar_trees (p := pos) (env := env) hs).1
  have h2 : (backTo pos (starEach es env)).all (fun x => !x.1) = true := by
    rw [List.all_eq_true]
    intro x hx
    rw [List.any_eq_false] at h1
    have := h1 x hx
    simpa using this
  rw [h2]
  have h3 : decide (es.length + ([] : List Keyword).length + (if ([] : List Keyword).isEmpty then 0 else 1) < 30) = true := by
    apply decide_eq_true
    show es.length + 0 + 0 < 30
    omega
  rw [h3]; rfl
theorem ev_meth {m : Me} {o : Expr} {es : List Expr} {apos pos : Pos} {mo : AM AV} {ms : AM (List AV)} (hs : (es.all fun e => !isStar e) = true) (hlen : es.length ≤ 10) (hb : isCall o = false) (hp : (apos.endLine == pos.line) = true)
    (ho : EvE B A T sc ns env F o mo) (hl : EvL B A T sc ns env F pos es ms) :
    EvE B A T sc ns env F (.Call (.Attribute o m.name apos) es [] pos) (abind mo fun x => abind (amty m x) fun q_ => abind ms fun xs => ame m x xs) := fun s G H z H' P I eq Q E hQ => by
  refine via fun R_ k_ => ?_
  obtain ⟨x, H1, e1, eq⟩ := abind_some eq
  obtain ⟨u, H2, e2, eq⟩ := abind_some eq
  obtain ⟨xs, H3, e3, e4⟩ := abind_some eq
  refine k_ ?_
  refine wpAny_Call_method_lateS (base_same hb) (few_args hs hlen) hp (ho s G H x H1 P I e1 _ _ fun v G1 h1 t1 s1 I1 P1 r1 => ?_)
  obtain ⟨q1, q2, q3⟩ := op_mty (s := { s with heap := h1, toks := t1 }) e2 I1 r1
  subst q1
  obtain ⟨m1, m2, m3⟩ := me_slot m
  refine ⟨m.ty, m.id, m1, m2, m3, q2, q3, ?_⟩
  refine callWith_builtin (noStar_trees hs).1 (evalArgs_of (noStar_trees hs).1 ?_)
  refine hl _ G1 _ xs H3 P1 I1 e3 _ _ fun vs G2 h2 t2 s2 I2 P2 r2 => ?_
  exact (op_meth e4 I2 (s2.rep r1) r2).use P2 (s1.trans s2) fun v G' h' tk' => hQ v G' h' tk'
theorem ev_own (K : ClassesOk B) (C : CallOK B A call') {k : Nat} {n : Str} {nm : List Nat} {o : Expr} {es : List Expr} {apos pos : Pos} {mo : AM AV} {ms : AM (List AV)} (hs : (es.all fun e => !isStar e) = true) (hlen : es.length ≤ 10) (hb : isName o = true) (hp : (apos.endLine == pos.line) = true)
    (hn : T.mnames[k]? = some nm) (hnm : isS nm n = true)
    (ho : EvE B A T sc ns env F o mo) (hl : EvL B A T sc ns env F pos es ms) :
    EvE B A T sc ns env F (.Call (.Attribute o n apos) es [] pos) (abind mo fun x => abind (aclsOf x) fun c => abind (aopt (B.Gl.mth c k)) fun j => abind ms fun xs => call' (.fn j) (x :: xs)) := fun s G H z H' P I eq Q E hQ => by
  refine via fun R_ k_ => ?_
  obtain ⟨x, H1, e1, eq⟩ := abind_some eq
  obtain ⟨c, H2, e2, eq2⟩ := abind_some eq
  obtain ⟨j, H3, e3, eq3⟩ := abind_some eq2
  obtain ⟨xs, H4, e4, eq4⟩ := abind_some eq3
  obtain ⟨e3x, rfl⟩ := aopt_some e3
  refine k_ ?_
  clear eq eq2 eq3
  rw [isS_eq hnm]
  rw [arm_eval_Call, base_name hb]
  refine wpAny_bind (ho s G H x H1 P I e1 _ _ fun v G1 h1 t1 s1 I1 P1 r1 => wpAny_bind (wpAny_standAt ?_))
  have hform : methodCallForm (es.length + ([] : List Keyword).length) (backTo pos (starEach es env)) (backToKw pos (keywordEach [] env)) = true := few_args hs hlen
  have hpos : methodCallPos true o env apos pos = pure pos := by unfold methodCallPos; simp [hp]
  unfold methodCall
  rw [hform]
  refine via fun R_ k_ => ?_
  obtain ⟨⟨i, c', fs⟩, H5, e5, e6⟩ := abind_some e2
  refine k_ ?_
  clear e2
  obtain ⟨rfl, hH, hc, rfl⟩ := ainst_some e5
  cases e6
  obtain ⟨p, hp', rfl⟩ := r1
  obtain ⟨m, Im, hm, hy⟩ := inst_at (s := { s with heap := h1, toks := t1 }) I1 hH hp'
  obtain ⟨mN, CA⟩ := K c' hc
  obtain ⟨cr, hC, hN, hNt⟩ := CA.obj
  obtain ⟨n', y, a1, a2, a3, a4, o', a5, a6, a7⟩ := CA.mth k j e3x
  have en : n' = nm := by
    rw [P.tm] at hn
    rw [hn] at a1; cases a1; rfl
  subst en
  have hsh : m (toS n') = none := by
    cases hq : m (toS n') with
    | none => rfl
    | some w =>
      obtain ⟨f, ef⟩ := hy (toS n') (by rw [hq]; simp)
      exact absurd ef.symm (a4 f)
  refine wpAny_bind (wpAny_holding (method_of (I1.sub _ _ (I1.old _ _ hC CA.tab)) (I1.ns hNt hN) CA.gab CA.gat a2 (I1.sub _ _ (I1.old _ _ a5 a6)) a7 a3 Im hsh ?_))
  refine wpAny_bind (wpAny_of_eq hpos ?_)
  refine callWith_fst (noStar_trees hs).1 ?_
  refine hl _ G1 _ xs H4 P1 I1 e4 _ _ fun vs G2 h2 t2 s2 I2 P2 r2 => ?_
  have rx : Rep B G2 (.obj i) (.ref p.1) := ⟨p, s2.alAt hp', rfl⟩
  obtain ⟨o2, fd, f1, f2⟩ := C.fn { s with heap := h2, toks := t2 } G2 H4 H' j z _ I2 eq4
  refine ⟨⟨_, o2, fd, rfl, f1, f2⟩, ?_⟩
  obtain ⟨_, y⟩ := C.pos { s with heap := h2, toks := t2 } G2 H4 H' (.fn j) z (.obj i :: xs) (.ref (B.fnA j)) (.ref p.1 :: vs) (.inl ⟨j, rfl⟩) I2 rfl ⟨_, _, rfl, rx, r2⟩ eq4
  exact y.use P2 (s1.trans s2) fun v G' h' tk' => hQ v G' h' tk'
end
end
section
set_option Elab.async false
set_option autoImplicit false
set_option linter.unusedVariables false
set_option maxRecDepth 100000
set_option tactic.hygienic false
set_option genSizeOf false
set_option genInjectivity false
open PySem PySem.W PyProof.Rows PySem.Calls
noncomputable abbrev made2 (h : Heap) (C : Addr) : Heap := (h.push { cls := .type "dict", data := .dict #[] }).push (insO C h.objs.size)
section
variable {prog : Program} {w : World} {A : Around} {E : Value → Shared → Prop} {h : Heap} {g : Array GenState} {d : Drawn} {t : Nat} {os : OsState}
variable {cr : CR} {C : Addr} {newId : String}
theorem objNew : ObjNewFacts "object.__new__" := ⟨by kernel_rfl, by kernel_rfl, by kernel_rfl, by kernel_rfl, by kernel_rfl, rfl, rfl⟩
theorem obj_new_check {M : Model} (F : ObjNewFacts newId) {rest : List Value} {kw : List (Str × Value)} {Q : Unit → Shared → Prop}
    (hC : h.get? C = some (cr.obj C [.type "object"] false newId)) (hq : Q () ⟨h, g, d, t, os⟩) :
    wpAny M A (checkBuiltinCall newId ⟨.ref C :: rest, kw⟩) Q E ⟨h, g, d, t, os⟩ := by
  have hcont : (Value.ref C :: [Value.type "object"]).contains (.type "object") = true := by rw [List.contains_cons, show [Value.type "object"].contains (.type "object") = true from by decide, Bool.or_true]
  unfold checkBuiltinCall
  rw [F.kind, F.split]
  dsimp only
  repeat (first | refine wpAny_loadPart_at hC ?_ | (refine wpAny_isSubtype_exc hC ?_; rw [hcont]) | refine wpAny_staticBase_exc hC ?_ | refine wpAny_madeBy_exc hC ?_ | simp only [bne_self_eq_false, Bool.false_eq_true, if_false] | wp_step)
  rw [F.row]
  repeat (first | refine wpAny_loadPart_at hC ?_ | (refine wpAny_isSubtype_exc hC ?_; rw [hcont]) | refine wpAny_staticBase_exc hC ?_ | refine wpAny_madeBy_exc hC ?_ | simp only [bne_self_eq_false, Bool.false_eq_true, if_false] | wp_step)
  exact hq
theorem ite_join {M : Model} {β : Type} {c : Prop} [Decidable c] {x y : Sem β} {Q : β → Shared → Prop} {s : Shared} (hy : wpAny M A y Q E s) (hx : wpAny M A y Q E s → wpAny M A x Q E s) : wpAny M A (if c then x else y) Q E s := by
  split
  · exact hx hy
  · exact hy
set_option maxHeartbeats 2000000 in
theorem obj_new_code {R : Result → Shared → Prop} (F : ObjNewFacts newId) {mN : Str → Option Value} {rest : List Value} {kw : List (Str × Value)} {fI : Addr}
    (hC : h.get? C = some (cr.obj C [.type "object"] false newId)) (hn : h.Ns cr.N mN) (hi : mN "__init__" = some (.ref fI))
    (hq : R (.ok (.ret (.ref (h.objs.size + 1)))) ⟨made2 h C, g, d, t, os⟩) :
    codeAny (model prog w) A (.builtin newId ⟨.ref C :: rest, kw⟩) R ⟨h, g, d, t, os⟩ := by
  have hmro : mroOf (.type "object") = pure [.type "object"] := by kernel_rfl
  have hlk : typeLookup (.type "object") "__init__" = pure (some (.builtin "object.__init__")) := by rw [typeLookup_type, builtinLookup_eq_fast]; kernel_rfl
  have hid := F.isIt
  have hne : (some (Value.ref fI) != some (Value.builtin "object.__init__")) = true := rfl
  have hsame : (some newId != some "object.__new__") = false := by rw [hid]; exact bne_self_eq_false _
  refine codeAny_builtin F.entry ?_
  unfold Builtin.«object.__new__»
  repeat (first | with_reducible refine wpAny_madeHere_exc F.canon hC ?_ | (with_reducible refine wpAny_madeBy_exc hC ?_; simp only [hsame]) | with_reducible refine wpAny_loadPart_at hC ?_ | (with_reducible refine wpAny_typeLookup_exc hC hn hmro hlk ?_; rw [hi]; simp only [hne]) | wp_step)
  refine ite_join ?_ fun tail => ?_
  · repeat (first | with_reducible refine wpAny_loadPart_at hC ?_ | wp_step)
    show wpAny _ _ (alloc { cls := .type "dict", data := .dict #[] } >>= fun x => pure (some x)) _ _ _
    refine wpAny_bind (wpAny_alloc' (wpAny_pure ?_))
    unfold newObj
    repeat wp_step
    show R _ _
    rw [Heap.size_push]
    exact hq
  · with_reducible refine wpAny_bind (wpAny_madeBy_exc hC ?_)
    simp only [hsame]
    repeat (first | exact tail | (with_reducible refine wpAny_typeLookup_exc hC hn hmro hlk ?_; rw [hi]; simp only [hne]) | wp_step)
theorem type_call_init (F : ObjNewFacts newId) {mN : Str → Option Value} {rest : List Value} {kw : List (Str × Value)} {fI : Addr} {oI : Obj} {Q : Fin → Shared → Prop}
    (hC : h.get? C = some (cr.obj C [.type "object"] false newId)) (hn : h.Ns cr.N mN) (hi : mN "__init__" = some (.ref fI))
    (hfI : h.get? fI = some oI) (hfc : oI.cls = .type "function")
    (hq : wpAny (model prog w) A (call (.ref fI) (.ref (h.objs.size + 1) :: rest) kw) (fun r s' => r = .none ∧ Q (.done (.ret (.ref (h.objs.size + 1)))) s') E ⟨made2 h C, g, d, t, os⟩) :
    wpAny (model prog w) A (Builtin.«type.__call__» ⟨.ref C :: rest, kw⟩) Q E ⟨h, g, d, t, os⟩ := by
  have hmro : mroOf (.type "object") = pure [.type "object"] := by kernel_rfl
  have hlk : typeLookup (.type "object") "__init__" = pure (some (.builtin "object.__init__")) := by rw [typeLookup_type, builtinLookup_eq_fast]; kernel_rfl
  repeat (first | with_reducible refine wpAny_loadPart_at hC ?_ | with_reducible refine wpAny_madeBy_exc hC ?_ | wp_step)
  refine codeAny_call_builtin_code (Code.quiet_builtin _ F.quiet) (obj_new_check F hC ?_)
  refine obj_new_code F hC hn hi ?_
  show wpAny _ _ _ _ _ _
  have hC₁ := Heap.get?_push_of_some { cls := .ref C, dict := some h.objs.size, data := .plain } (Heap.get?_push_of_some { cls := .type "dict", data := .dict #[] } hC)
  have hfI₁ := Heap.get?_push_of_some { cls := .ref C, dict := some h.objs.size, data := .plain } (Heap.get?_push_of_some { cls := .type "dict", data := .dict #[] } hfI)
  have hn₁ : ((h.push { cls := .type "dict", data := .dict #[] }).push { cls := .ref C, dict := some h.objs.size, data := .plain }).Ns cr.N mN :=
    let ⟨o, es, ep, e, r⟩ := hn; ⟨o, es, ep, Heap.get?_push_of_some _ (Heap.get?_push_of_some _ e), r⟩
  have hget : ((h.push { cls := .type "dict", data := .dict #[] }).push { cls := .ref C, dict := some h.objs.size, data := .plain }).get? (h.objs.size + 1) = some { cls := .ref C, dict := some h.objs.size, data := .plain } := by heap_get
  have hcC : (Value.ref C :: [Value.type "object"]).contains (.ref C) = true := by simp
  unfold isInstance
  repeat (first | with_reducible refine wpAny_loadPart_at hget ?_ | (with_reducible refine wpAny_isSubtype_exc hC₁ ?_; rw [hcC]) | wp_step)
  show wpAny _ _ (typeLookup (.ref C) _) _ _ _
  refine wpAny_typeLookup_exc hC₁ hn₁ hmro hlk ?_
  rw [hi]
  refine wpAny_holding (wpAny_bind ?_)
  unfold bindSpecial
  refine wpAny_bind (wpAny_typeOf (T := "function") ⟨_, hfI₁, hfc⟩ ?_)
  rw [if_pos (by decide)]
  refine wpAny_pure (wpAny_bind (wpAny_mono hq (fun r s' hr => ?_) fun q_ q_ x => x))
  obtain ⟨rfl, hQ⟩ := hr
  wp_walk
  exact hQ
theorem call_cls_init (F : ObjNewFacts newId) {mN : Str → Option Value} {rest : List Value} {kw : List (Str × Value)} {fI : Addr} {oI : Obj} {Q : Value → Shared → Prop}
    (hC : h.get? C = some (cr.obj C [.type "object"] false newId)) (hn : h.Ns cr.N mN) (hi : mN "__init__" = some (.ref fI))
    (hfI : h.get? fI = some oI) (hfc : oI.cls = .type "function")
    (hq : wpAny (model prog w) (A.under (.builtin "type.__call__" ⟨.ref C :: rest, kw⟩)) (call (.ref fI) (.ref (h.objs.size + 1) :: rest) kw) (fun r s' => r = .none ∧ Q (.ref (h.objs.size + 1)) s') E ⟨made2 h C, g, d, t, os⟩) :
    wpAny (model prog w) A (call (.ref C) rest kw) Q E ⟨h, g, d, t, os⟩ := by
  have f1 := tc_lookup
  have f2 := tc_bind (.ref C)
  have hT : (⟨h, g, d, t, os⟩ : Shared).TypeIs (.ref C) "type" := ⟨_, hC, rfl⟩
  refine wpAny_call (codeAny_of_tree ?_)
  show wpAny _ _ (callAny (.ref C) _) _ _ _
  repeat (any_goals (first | assumption | with_reducible refine wpAny_loadPart_at hC ?_ | wp_step))
  refine ⟨rfl, ?_⟩
  refine codeAny_call_builtin_at (Code.quiet_builtin _ (by decide +kernel)) entry_typeCall (wpAny_check_type_call_sub hC (type_call_init F hC hn hi hfI hfc ?_))
  exact hq
end
end
section
set_option Elab.async false
set_option autoImplicit false
set_option linter.unusedVariables false
set_option maxRecDepth 100000
set_option tactic.hygienic false
set_option genSizeOf false
set_option genInjectivity false
open PySem PySem.W PyProof.Rows PySem.Calls
section
variable {prog : Program} {w : World} {A : Around} {s : Shared}
theorem codeAny_call_cellsB {R : Result → Shared → Prop} {a : Addr} {o : Obj} {fd : FuncData} {body : List Stmt} {args : Args} {binds : List (Str × Value)}
    (hroom : A.depth < recursionLimit) (ho : s.heap.get? a = some o) (hdata : o.data = .func fd) (hlim : s.heap.NoLimit) (hcd : s.heap.CodeRec fd.code fd.qualname)
    (hbody : fd.body = .stmts body) (hbind : BindsTo s fd args binds) (hclo : fd.closure = [])
    (hkind : ∀ x ∈ binds, fd.scope.names.lookup x.1 = some .local ∨ (fd.scope.names.lookup x.1 = some .cell ∧ ((cellsFrom (s.heap.objs.size + 1) fd.scope.names []).lookup x.1).isSome = true))
    (h : ∀ s₁, InCallC s (callEnvC fd s.heap.objs.size a).locals (bindL (callEnvC fd s.heap.objs.size a).kindOf binds fun q_ => none) (callEnvC fd s.heap.objs.size a).cells
        (bindC (callEnvC fd s.heap.objs.size a).kindOf binds fun q_ => none) s₁ →
      wpAny (model prog w) (A.deeper (callEnvC fd s.heap.objs.size a)) (execs body (callEnvC fd s.heap.objs.size a)) (fun f s' => R (.ok (.ret (match f with | .ret v => v | _ => .none))) s')
        (fun e s' => wpAny (model prog w) (A.deeper (callEnvC fd s.heap.objs.size a)) (leaving (callEnvC fd s.heap.objs.size a) e) (fun q_ s'' => R (.error e) s'') (fun e' s'' => R (.error e') s'') s') s₁)
    (hco : fd.scope.isCoroutine = false) (hgen : fd.scope.isGenerator = false) (hk : fd.scope.kind = .function) :
    codeAny (model prog w) A (.call (.ref a) args) R s := by
  refine codeAny_call_function hroom ho hdata hco hgen hbody hcd (hbind _ _ _ _ ?_)
  rw [hclo]
  refine wpAny_newFunctionEnv_cells hk hkind fun env he s' x => ?_
  subst he
  exact ⟨hlim.keeps x.toInCall.keep, codeAny_func (h s' x)⟩
end
section
variable {B : Base} {A : Around} {G : St} {H H' : AH} {s : Shared}
theorem InCallC.same {s₀ s₁ : Shared} {L : Addr} {m : Str → Option Value} {cells : List (Str × Addr)} {cm : Str → Option Value} (x : InCallC s₀ L m cells cm s₁) : ∃ h' tk, s₁ = { s₀ with heap := h', toks := tk } := by
  obtain ⟨h', tk, e, _⟩ := x.done
  exact ⟨h', tk, e⟩
theorem enter_top (O : BaseOk B) {a : Addr} {fd : FuncData} {T : Tabs} {names : List (List Nat)} {np : Nat} (C : FnCore B a fd T names np) {body : List Stmt} (hbody : fd.body = .stmts body) {args : List AV} {F : AF}
    (eF : frameOf names.length np args [] = some F) {vs : List Value} (I : Inv B G H s.heap) (rs : RepL B G args vs) {ar : Args} (hb : BindsTo s fd ar (((names.take np).map toS).zip vs)) (hroom : A.depth < recursionLimit)
    {Q : Value → Shared → Prop} {E : Value → Shared → Prop}
    (hx : ∀ env G1 h1 tk1, env.scope = fd.scope → env.frame = some env.locals → (∀ b, Own fd.scope env b → s.heap.get? b = none) → Step B Pure G s.heap G1 h1 → Inv B G1 H h1 → FrOK B T fd.scope names env F G1 h1 →
      wpAny (model B.prog B.w) (A.deeper env) (execs body env) (fun f s' => Q (match f with | .ret v => v | _ => .none) s') (fun e s' => wpAny (model B.prog B.w) (A.deeper env) (leaving env e) (fun q_ s'' => E e s'') (fun e' s'' => E e' s'') s') { s with heap := h1, toks := tk1 }) :
    wpAny (model B.prog B.w) A (call (.ref a) ar.pos ar.kw) Q E s := by
  have S := scopeOk_iff C.sc
  obtain ⟨o, ho, hd⟩ := C.obj
  have ho' := I.sub _ _ (I.old _ _ ho C.tab)
  have hcd : s.heap.CodeRec fd.code fd.qualname := by
    refine via fun R_ k_ => ?_
    obtain ⟨c, oc, fs, t, e, g, ct, d, q⟩ := C.code
    refine k_ ?_
    exact ⟨c, oc, fs, t, e, I.sub _ _ (I.old _ _ g ct), d, q⟩
  have hargs := (frame_some eF).1
  have hvl : vs.length = np := by rw [rs.len, hargs]
  have S' := C.sc
  unfold scopeOk at S'
  simp only [Bool.and_eq_true, Bool.not_eq_true'] at S'
  refine wpAny_call (codeAny_call_cellsB hroom ho' hd (I.noLimit O) hcd hbody hb C.clo (fun x hx => ?_) (fun s₁ X => ?_) S'.1.1.1.2 S'.1.1.1.1.2 S.kind)
  · have hm : x.1 ∈ ((names.take np).map toS) := by
      have := List.mem_map_of_mem (f := Prod.fst) hx
      rw [zip_keys (by rw [List.length_map, List.length_take, hvl]; have := C.hnp; omega)] at this
      exact this
    obtain ⟨n, hn, e⟩ := List.mem_map.mp hm
    rw [← e]
    rcases C.par n hn with k | k
    · exact .inl (isKind_iff.mp k)
    · exact .inr ⟨isKind_iff.mp k, cells_some _ _ _ _ (.inl (mem_of_lookup (isKind_iff.mp k)))⟩
  · obtain ⟨G1, I1, st1, P1⟩ := frOK_top C eF I rs X
    obtain ⟨h1, tk1, rfl⟩ := InCallC.same X
    refine hx _ G1 h1 tk1 rfl rfl (fun b hb => ?_) st1 I1 P1
    rcases hb with hb | ⟨x, _, hb⟩
    · rw [hb]; exact Heap.get?_end _
    · exact Heap.get?_none_of_le (Nat.le_of_lt (X.above _ _ (mem_of_lookup hb)))
theorem call_top (O : BaseOk B) {a : Addr} {fd : FuncData} {T : Tabs} {names : List (List Nat)} {np : Nat} (C : FnCore B a fd T names np) {body : List Stmt} (hbody : fd.body = .stmts body) {args : List AV} {F F' : AF}
    (eF : frameOf names.length np args [] = some F) {vs : List Value} (I : Inv B G H s.heap) (rs : RepL B G args vs) {ar : Args} (hb : BindsTo s fd ar (((names.take np).map toS).zip vs)) (hroom : A.depth < recursionLimit)
    {ma : AF → AM (Flo × AF)} (hx : ∀ env, env.scope = fd.scope → ExS B (A.deeper env) T fd.scope names env (execs body env) ma) {fl : Flo} (eq : ma F H = some ((fl, F'), H'))
    {z : AV} (hz : z = fl.val) : Yields B A (call (.ref a) ar.pos ar.kw) G H H' z s := fun Q E hQ => by
  subst hz
  refine enter_top O C hbody eF I rs hb hroom fun env G1 h1 tk1 hsc q_ fresh st1 I1 P1 => ?_
  refine hx env hsc F _ G1 H fl F' H' P1 I1 eq _ _ fun f G2 h2 t2 s2 I2 P2 r2 => ?_
  have st := (st1.pure.trans s2).shut fresh
  have done : ∀ v, Rep B G2 fl.val v → Q v { s with heap := h2, toks := t2 } := fun v r => hQ v G2 h2 t2 st I2 r
  cases fl with
  | next =>
    cases f with
    | next => exact done .none rfl
    | _ => exact r2.elim
  | ret v =>
    cases f with
    | ret u => exact done u r2
    | _ => exact r2.elim
end
end
section
set_option Elab.async false
set_option autoImplicit false
set_option linter.unusedVariables false
set_option maxRecDepth 100000
set_option tactic.hygienic false
set_option genSizeOf false
set_option genInjectivity false
open PySem PySem.W PyProof.Rows PySem.Calls
noncomputable def clos (env : Env) : List (Str × NameKind) → List (Str × Addr) → List (Str × Addr)
  | [], acc => acc
  | p :: r, acc => clos env r (if p.2 = .free then (p.1, (env.cells.lookup p.1).getD 0) :: acc else acc)
theorem clos_for {env : Env} {scope : Scope} (h : ∀ p ∈ scope.names, p.2 = .free → ∃ c, env.cells.lookup p.1 = some c) : closureFor scope env = pure (clos env scope.names []) := by
  have key : ∀ (l : List (Str × NameKind)) (acc : List (Str × Addr)), (∀ p ∈ l, p.2 = .free → ∃ c, env.cells.lookup p.1 = some c) →
      (forIn l acc fun (x : Str × NameKind) (r : List (Str × Addr)) => (if x.2 == .free then do let a ← cellOf env x.1; pure (ForInStep.yield ((x.1, a) :: r)) else pure (ForInStep.yield r) : Sem (ForInStep (List (Str × Addr))))) = pure (clos env l acc) := by
    intro l
    induction l with
    | nil => intro acc _; rfl
    | cons p l ih =>
      intro acc h
      rw [List.forIn_cons]
      have h' : ∀ q ∈ l, q.2 = .free → ∃ c, env.cells.lookup q.1 = some c := fun q hq => h q (List.mem_cons_of_mem _ hq)
      by_cases hp : p.2 = .free
      · obtain ⟨c, hc⟩ := h p List.mem_cons_self hp
        have e : cellOf env p.1 = pure c := by unfold cellOf; rw [hc]
        rw [hp]
        simp only [beq_self_eq_true, if_true, e, pure_bind]
        rw [ih _ h']
        show _ = pure (clos env l (if p.2 = .free then (p.1, (env.cells.lookup p.1).getD 0) :: acc else acc))
        rw [if_pos hp, hc]; rfl
      · have hb : (p.2 == NameKind.free) = false := by
          cases q : p.2 <;> first | rfl | exact absurd q hp
        rw [hb]
        simp only [Bool.false_eq_true, if_false, pure_bind]
        rw [ih _ h']
        show _ = pure (clos env l (if p.2 = .free then _ else acc))
        rw [if_neg hp]
  have := key scope.names [] h
  unfold closureFor
  first
    | exact (by simpa using this)
    | (rw [show (forIn scope.names ([] : List (Str × Addr)) fun x cs => _) = pure (clos env scope.names []) from this]; rfl)
set_option tactic.hygienic true in
theorem clos_acc (env : Env) (x : Str) : ∀ (l : List (Str × NameKind)) (acc : List (Str × Addr)), (∀ k, (x, k) ∈ l → k ≠ .free) → (clos env l acc).lookup x = acc.lookup x
  | [], _, _ => rfl
  | p :: l, acc, h => by
    show (clos env l _).lookup x = _
    rw [clos_acc env x l _ fun k hk => h k (List.mem_cons_of_mem _ hk)]
    split
    · rename_i hp
      rw [List.lookup_cons]
      split
      · rename_i e
        have e' : x = p.1 := by simpa using e
        exact absurd hp (h p.2 (by rw [e']; exact List.mem_cons_self))
      · rfl
    · rfl
theorem clos_at (env : Env) (x : Str) : ∀ (l : List (Str × NameKind)) (acc : List (Str × Addr)), (l.map (·.1)).Nodup → (x, NameKind.free) ∈ l → (clos env l acc).lookup x = some ((env.cells.lookup x).getD 0)
  | [], _, _, h => by cases h
  | p :: l, acc, hn, h => by
    rw [List.map_cons, List.nodup_cons] at hn
    rcases List.mem_cons.mp h with e | h
    · subst e
      show (clos env l _).lookup x = _
      rw [if_pos rfl, clos_acc env x l _ fun k hk => absurd (List.mem_map_of_mem (f := Prod.fst) hk) hn.1]
      rw [List.lookup_cons, beq_self_eq_true]
    · exact clos_at env x l _ hn.2 h
section
variable {B : Base} {A : Around} {T : Tabs} {sc : Scope} {ns : List (List Nat)} {env : Env} {F : AF} {G : St} {H : AH} {s : Shared}
set_option tactic.hygienic true in
theorem caps_some {F : AF} : ∀ {caps : List (Nat × Nat)} {l : List (Nat × AV)}, capsOf F caps = some l → (∀ c ∈ caps, ∃ v, F[c.1]? = some (some v) ∧ (c.2, v) ∈ l) ∧ ∀ p ∈ l, ∃ c ∈ caps, c.2 = p.1 ∧ F[c.1]? = some (some p.2)
  | [], l, e => by cases e; exact ⟨fun q_ h => (List.not_mem_nil h).elim, fun q_ h => (List.not_mem_nil h).elim⟩
  | (o, i) :: r, l, e => by
    unfold capsOf at e
    split at e
    · rename_i v l' h1 h2
      cases e
      obtain ⟨a, b⟩ := caps_some h2
      refine ⟨fun c hc => ?_, fun p hp => ?_⟩
      · rcases List.mem_cons.mp hc with rfl | hc
        · exact ⟨v, h1, List.mem_cons_self⟩
        · obtain ⟨v', x, y⟩ := a c hc
          exact ⟨v', x, List.mem_cons_of_mem _ y⟩
      · rcases List.mem_cons.mp hp with rfl | hp
        · exact ⟨_, List.mem_cons_self, rfl, h1⟩
        · obtain ⟨c, x, y, z⟩ := b p hp
          exact ⟨c, List.mem_cons_of_mem _ x, y, z⟩
    · cases e
structure ClosOk (sc sc' : Scope) (names names' : List (List Nat)) (caps : List (Nat × Nat)) : Prop where
  scp : scopeOk sc' names' = true
  cell : ∀ p ∈ sc'.names, p.2 ≠ .cell
  free : ∀ p ∈ sc'.names, p.2 = .free → ∃ c ∈ caps, names'[c.2]? = some p.1.cps.toList
  cap : ∀ c ∈ caps, ∃ x, names[c.1]? = some x ∧ names'[c.2]? = some x ∧ isKind sc' (toS x) .free = true ∧ (isKind sc (toS x) .cell = true ∨ isKind sc (toS x) .free = true)
set_option tactic.hygienic true in
theorem closOk_iff {sc sc' : Scope} {names names' : List (List Nat)} {caps : List (Nat × Nat)} (h : closOk sc sc' names names' caps = true) : ClosOk sc sc' names names' caps := by
  unfold closOk at h
  simp only [Bool.and_eq_true, List.all_eq_true] at h
  obtain ⟨⟨⟨h1, h2⟩, h3⟩, h4⟩ := h
  refine ⟨h1, fun p hp => by have := h2 p hp; simpa using this, fun p hp e => ?_, fun c hc => ?_⟩
  · have := h3 p hp
    rw [Bool.or_eq_true] at this
    rcases this with q | q
    · rw [e] at q; exact absurd q (by decide)
    · rw [List.any_eq_true] at q
      obtain ⟨c, hc, d⟩ := q
      exact ⟨c, hc, of_decide_eq_true d⟩
  · have := h4 c hc
    split at this
    · rename_i x y hx hy
      simp only [Bool.and_eq_true, decide_eq_true_eq, Bool.or_eq_true] at this
      obtain ⟨⟨e, k1⟩, k2⟩ := this
      subst e
      exact ⟨x, hx, hy, k1, k2⟩
    · cases this
theorem toS_of (x : Str) : toS x.cps.toList = x := by unfold toS; simp
theorem handed {sc' : Scope} {names' : List (List Nat)} {caps : List (Nat × Nat)} (K : ClosOk sc sc' ns names' caps) (P : FrOK B T sc ns env F G s.heap) {l : List (Nat × AV)} (e : capsOf F caps = some l) :
    (∀ p ∈ sc'.names, p.2 = .free → ∃ c, env.cells.lookup p.1 = some c) ∧ RepC B G names' (clos env sc'.names []) l ∧
      (∀ p ∈ sc'.names, p.2 = .free → ∃ c ∈ l, names'[c.1]? = some p.1.cps.toList) ∧ ∀ c ∈ l, ∃ n, names'[c.1]? = some n ∧ isKind sc' (toS n) .free = true := by
  obtain ⟨a, b⟩ := caps_some e
  have S := scopeOk_iff K.scp
  have cellAt : ∀ c ∈ caps, ∃ x k, ns[c.1]? = some x ∧ names'[c.2]? = some x ∧ isKind sc' (toS x) .free = true ∧ env.cells.lookup (toS x) = some k ∧ CelOk B G s.heap sc env (toS x) k F[c.1]? := fun c hc => by
    refine via fun R_ k_ => ?_
    obtain ⟨x, h1, h2, h3, h4⟩ := K.cap c hc
    obtain ⟨k, h5, h6⟩ := P.cel c.1 x h1 h4
    refine k_ ?_
    exact ⟨x, k, h1, h2, h3, h5, h6⟩
  have f1 : ∀ p ∈ sc'.names, p.2 = .free → ∃ c, env.cells.lookup p.1 = some c := fun p hp hf => by
    refine via fun R_ k_ => ?_
    obtain ⟨c, hc, e1⟩ := K.free p hp hf
    obtain ⟨x, k, _, h2, _, h5, _⟩ := cellAt c hc
    refine k_ ?_
    rw [e1] at h2; cases h2
    rw [toS_of] at h5
    exact ⟨k, h5⟩
  refine ⟨f1, ?_, fun p hp hf => ?_, fun c hc => ?_⟩
  · have all : ∀ p ∈ l, ∃ n c o v, names'[p.1]? = some n ∧ (clos env sc'.names []).lookup (toS n) = some c ∧ G.g c = some o ∧ o.data = .cell (some v) ∧ Rep B G p.2 v := fun p hp => by
      refine via fun R_ k_ => ?_
      obtain ⟨c, hc, e1, e2⟩ := b p hp
      obtain ⟨x, k, h1, h2, h3, h5, h6⟩ := cellAt c hc
      refine k_ ?_
      rw [e2] at h6
      refine via fun R_ k_ => ?_
      obtain ⟨o, u, g, d, r⟩ := h6
      refine k_ ?_
      refine ⟨x, k, o, u, by rw [← e1]; exact h2, ?_, g, d, r⟩
      rw [clos_at env (toS x) sc'.names [] S.keys (mem_of_lookup (isKind_iff.mp h3)), h5]; rfl
    clear e a b
    induction l with
    | nil => trivial
    | cons p l ih => exact ⟨all p List.mem_cons_self, ih fun q hq => all q (List.mem_cons_of_mem _ hq)⟩
  · refine via fun R_ k_ => ?_
    obtain ⟨c, hc, e1⟩ := K.free p hp hf
    obtain ⟨v, _, h⟩ := a c hc
    refine k_ ?_
    exact ⟨_, h, e1⟩
  · refine via fun R_ k_ => ?_
    obtain ⟨k, hk, e1, e2⟩ := b c hc
    obtain ⟨x, _, h2, h3, _⟩ := K.cap k hk
    refine k_ ?_
    exact ⟨x, by rw [← e1]; exact h2, h3⟩
end
end
section
set_option Elab.async false
set_option autoImplicit false
set_option linter.unusedVariables false
set_option maxRecDepth 100000
set_option tactic.hygienic false
set_option genSizeOf false
set_option genInjectivity false
open PySem PySem.W PyProof.Rows PySem.Calls
section
variable {prog : Program} {w : World} {A : Around} {R : Result → Shared → Prop} {s : Shared}
theorem compLoopG {elt target iter : Expr} {ifs : List Expr} {scope : Scope} {pos : Pos} {it acc : Value} {env : Env} (I : Nat → Shared → Prop)
    (turn : ∀ n s, I n s → wpAny (model prog w) A (pyNext it) (fun r s₁ => match r with
      | none => R (.ok .next) s₁
      | some v => wpAny (model prog w) A (letOwnedTupleGo target it v) (fun q_ s₁' => wpAny (model prog w) A (assign target env v) (fun q_ s₂ =>
          wpAny (model prog w) A (forIn ifs true fun c r => if r = true then do let ok ← isTrue c env (eval c env); pure (ForInStep.yield ok) else pure (ForInStep.yield r)) (fun ok s₃ =>
            if ok = true then wpAny (model prog w) A (eval elt env) (fun x s₄ =>
              wpAny (model prog w) A (call (.builtin "list.append") [acc, x]) (fun q_ s₅ => ∃ m, m < n ∧ I m s₅) (notedBy (model prog w) A env fun e s' => R (.error e) s') s₄) (notedBy (model prog w) A env fun e s' => R (.error e) s') s₃
            else ∃ m, m < n ∧ I m s₃) (notedBy (model prog w) A env fun e s' => R (.error e) s') s₂) (notedBy (model prog w) A env fun e s' => R (.error e) s') s₁') (notedBy (model prog w) A env fun e s' => R (.error e) s') s₁) (notedBy (model prog w) A env fun e s' => R (.error e) s') s)
    (n : Nat) (h : I n s) : codeAny (model prog w) A (.compLoop (.ListComp elt [⟨target, iter, ifs, 0⟩] scope pos) 0 it acc env) R s := by
  refine codeAny_loop rfl I (fun n s hI => ?_) n h
  show wpAny _ A ((compTurn (.ListComp elt [⟨target, iter, ifs, 0⟩] scope pos) 0 it acc env).onRaise (fun x => do noteFrame x env; theTreesLotGoes x)) _ _ s
  refine wpAny_noted ?_
  rw [compTurn_list]
  refine wpAny_bind (wpAny_standAt (wpAny_bind (wpAny_mono (turn n s hI) (fun r s₁ h₁ => ?_) fun q_ q_ h' => h')))
  cases r with
  | none => exact wpAny_pure h₁
  | some v =>
    refine wpAny_bind (wpAny_mono h₁ (fun q_ s₁' h₁' => ?_) fun q_ q_ h' => h')
    refine wpAny_bind (wpAny_mono h₁' (fun q_ s₂ h₂ => wpAny_bind (wpAny_mono h₂ (fun ok s₃ h₃ => ?_) fun q_ q_ h' => h')) fun q_ q_ h' => h')
    cases ok with
    | false => exact wpAny_pure ⟨rfl, h₃⟩
    | true =>
      exact wpAny_bind (wpAny_bind (wpAny_mono h₃ (fun x s₄ h₄ => wpAny_bind (wpAny_mono h₄ (fun q_ s₅ h₅ => wpAny_pure (wpAny_pure ⟨rfl, h₅⟩)) fun q_ q_ h' => h')) fun q_ q_ h' => h'))
end
theorem relabel_free {env : Env} : ∀ {names : List (Str × NameKind)} {x : Str}, names.lookup x = some .free →
    (names.map fun (n, k) => if (k == NameKind.free && env.scope.kind == .function && env.kindOf n == some .cell) then (n, NameKind.cell) else (n, k)).lookup x = some .free ∨
    (names.map fun (n, k) => if (k == NameKind.free && env.scope.kind == .function && env.kindOf n == some .cell) then (n, NameKind.cell) else (n, k)).lookup x = some .cell
  | [], _, h => by simp at h
  | (n, k) :: r, x, h => by
    have ih := @relabel_free env r x
    show List.lookup x ((if (k == NameKind.free && env.scope.kind == .function && env.kindOf n == some .cell) = true then (n, NameKind.cell) else (n, k)) :: _) = _ ∨ List.lookup x ((if (k == NameKind.free && env.scope.kind == .function && env.kindOf n == some .cell) = true then (n, NameKind.cell) else (n, k)) :: _) = _
    cases hx : x == n with
    | true =>
      simp only [List.lookup_cons, hx] at h
      cases h
      split
      · right; simp [List.lookup_cons, hx]
      · left; simp [List.lookup_cons, hx]
    | false =>
      simp only [List.lookup_cons, hx] at h
      split <;> (simp only [List.lookup_cons, hx]; exact ih h)
theorem relabel_glob {env : Env} : ∀ {names : List (Str × NameKind)} {x : Str}, names.lookup x = some .globalImplicit →
    (names.map fun (n, k) => if (k == NameKind.free && env.scope.kind == .function && env.kindOf n == some .cell) then (n, NameKind.cell) else (n, k)).lookup x = some .globalImplicit
  | [], _, h => by simp at h
  | (n, k) :: r, x, h => by
    have ih := @relabel_glob env r x
    show List.lookup x ((if (k == NameKind.free && env.scope.kind == .function && env.kindOf n == some .cell) = true then (n, NameKind.cell) else (n, k)) :: _) = _
    cases hx : x == n with
    | true =>
      simp only [List.lookup_cons, hx] at h
      cases h
      simp [List.lookup_cons, hx]
    | false =>
      simp only [List.lookup_cons, hx] at h
      split <;> (simp only [List.lookup_cons, hx]; exact ih h)
section
variable {B : Base} {A : Around} {T : Tabs} {sc : Scope} {ns : List (List Nat)} {env : Env} {F : AF} {G : St} {H : AH}
theorem frOK_comp {sc' : Scope} {names : List (List Nat)} {caps : List (Nat × Nat)} (K : ClosOk sc sc' ns names caps) (hg : env.globals = mainGlobals) (hb : env.builtins = builtinsNs) (t1 : T.gnames = B.T.gnames) (t2 : T.mnames = B.T.mnames)
    {l : List (Nat × AV)} (rc : RepC B G names (clos env sc'.names []) l)
    (k1 : ∀ p ∈ sc'.names, p.2 = .free → ∃ c ∈ l, names[c.1]? = some p.1.cps.toList) (k2 : ∀ c ∈ l, ∃ n, names[c.1]? = some n ∧ isKind sc' (toS n) .free = true)
    {C : Addr} {h' : Heap} {m : Str → Option Value} (lg : G.g C = none) (la : C ∉ G.adr) (lt : C ∉ B.tabP) (hns : h'.Ns C m) :
    FrOK B T sc' names (compEnvC sc' (clos env sc'.names []) C env) (putCaps (List.replicate names.length none) l) G h' := by
  have S := scopeOk_iff K.scp
  have ncell : ∀ x, isKind sc' x .cell = false := fun x => by
    cases e : isKind sc' x .cell with
    | false => rfl
    | true => exact absurd rfl (K.cell _ (mem_of_lookup (isKind_iff.mp e)))
  have hlen : (List.replicate names.length none : AF).length = names.length := List.length_replicate
  refine ⟨t1, t2, fun x e => lookup_relabel_local (isKind_iff.mp e), fun x e => ?_, fun x e => relabel_free (isKind_iff.mp e), fun x e => relabel_glob (isKind_iff.mp e), S.kind, hg, hb, S.nod, ?_, lg, la, lt, ⟨m, hns, ?_⟩, ?_, ?_, ?_⟩
  · rw [ncell] at e; cases e
  · rw [putCaps_len, hlen]
  · intro i n hn hl v hv
    rw [putCaps_other] at hv
    · have := List.mem_of_getElem? hv
      rw [List.mem_replicate] at this
      cases this.2
    · intro c hc' e
      subst e
      obtain ⟨n', hn', hfree⟩ := k2 c hc'
      rw [hn] at hn'
      cases hn'
      rw [isKind_iff] at hl hfree
      rw [hl] at hfree; cases hfree
  · intro i n hn hk'
    rcases hk' with hk' | hk'
    · rw [ncell] at hk'; cases hk'
    · obtain ⟨c, hc', hcn⟩ := k1 _ (mem_of_lookup (isKind_iff.mp hk')) rfl
      have hcn : names[c.1]? = some n := by
        have : (toS n).cps.toList = n := by simp [toS]
        rw [this] at hcn; exact hcn
      have hi : c.1 = i := nodup_at S.nod hcn hn
      have hil : i < names.length := (List.getElem?_eq_some_iff.mp hn).1
      obtain ⟨v, hv, e⟩ := putCaps_at l (List.replicate names.length none) i (by rw [hlen]; exact hil) ⟨c, hc', hi⟩
      refine via fun R_ k_ => ?_
      obtain ⟨n', cc, o, u, a1, a2, a3, a4, a5⟩ := repC_at rc (i, v) hv
      refine k_ ?_
      rw [hn] at a1; cases a1
      refine ⟨cc, a2, ?_⟩
      rw [e]
      exact ⟨o, u, a3, a4, a5⟩
  · rintro a (ha | ⟨x, hx, _⟩)
    · refine via fun R_ k_ => ?_
      obtain ⟨o, _, _, e, _⟩ := hns
      refine k_ ?_
      exact ⟨o, by rw [ha]; exact e⟩
    · rw [ncell] at hx; cases hx
  · intro x y c hx
    rw [ncell] at hx; cases hx
noncomputable abbrev EvTs (B : Base) (A : Around) (T : Tabs) (sc : Scope) (ns : List (List Nat)) (env : Env) (F : AF) (ifs : List Expr) (m : AM AV) : Prop :=
  Ev B A (FrOK B T sc ns env F) (forIn ifs true fun c r => if r = true then do let ok ← isTrue c env (eval c env); pure (ForInStep.yield ok) else pure (ForInStep.yield r)) (fun _ (x : Bool) (b : Bool) => b = x) (tst m)
theorem evTs_nil : EvTs B A T sc ns env F [] (apure (.bool true)) := fun s G H x H' P I eq Q E hQ => by
  obtain ⟨e, rfl⟩ := apure_some (tst_some eq)
  cases e
  exact wpAny_pure (hQ _ G _ _ (Step.refl ..) I P rfl)
theorem tests_false {prog : Program} {w : World} {E : Value → Shared → Prop} {s : Shared} {Q : Bool → Shared → Prop} : ∀ (ifs : List Expr), Q false s →
    wpAny (model prog w) A (forIn ifs false fun c r => if r = true then do let ok ← isTrue c env (eval c env); pure (ForInStep.yield ok) else pure (ForInStep.yield r)) Q E s
  | [], h => wpAny_pure h
  | c :: r, h => by
    rw [List.forIn_cons]
    simp only [Bool.false_eq_true, if_false, pure_bind]
    exact tests_false r h
theorem evTs_cons {c : Expr} {r : List Expr} {mc mr : AM AV} (hc : EvT B A T sc ns env F c mc) (hr : EvTs B A T sc ns env F r mr) :
    EvTs B A T sc ns env F (c :: r) (abind mc fun v => abind (aopt (truthA v)) fun t => if t then mr else apure (.bool false)) := fun s G H x H' P I eq Q E hQ => by
  have eq := tst_some eq
  obtain ⟨t, H1, e1, eq⟩ := abind_truth eq
  rw [List.forIn_cons]
  simp only [if_true]
  refine wpAny_bind (wpAny_bind (hc s G H t H1 P I (tst_of e1) _ _ fun v G1 h1 t1 s1 I1 P1 r1 => wpAny_pure ?_))
  subst r1
  cases v with
  | true => exact hr _ G1 H1 x H' P1 I1 (tst_of eq) _ _ fun w G2 h2 t2 s2 I2 P2 r2 => hQ w G2 h2 t2 (s1.trans s2) I2 P2 r2
  | false =>
    obtain ⟨e, rfl⟩ := apure_some eq
    cases e
    exact tests_false r (hQ _ G1 h1 t1 s1 I1 P1 rfl)
theorem opt_eq {α β : Type} {o : Option α} {f : α → AM β} {H : AH} {x : α} (e : o = some x) : abind (aopt o) f H = f x H := by
  subst e; rfl
theorem aif_eq {α : Type} {b : Prop} [Decidable b] {x : α} (h : b) : aif b x = some x := if_pos h
end
end
section
set_option Elab.async false
set_option autoImplicit false
set_option linter.unusedVariables false
set_option maxRecDepth 100000
set_option tactic.hygienic false
set_option genSizeOf false
set_option genInjectivity false
open PySem PySem.W PyProof.Rows PySem.Calls
section
variable {B : Base} {A : Around} {T : Tabs} {sc : Scope} {ns : List (List Nat)} {env : Env} {F : AF}
structure Priv (B : Base) (G : St) (a : Addr) : Prop where
  la : a ∉ G.adr
  lt : a ∉ B.tabP
  lg : G.g a = none
theorem Priv.step {X : Addr → Prop} {G G' : St} {h h' : Heap} {a : Addr} {o : Obj} (p : Priv B G a) (st : Step B X G h G' h') (hX : ¬ X a) (e : h.get? a = some o) : Priv B G' a :=
  ⟨not_new st p.la hX e, p.lt, (st.ext a o e hX).trans p.lg⟩
theorem Priv.new {G : St} {H : AH} {h : Heap} (I : Inv B G H h) {a : Addr} (e : h.objs.size ≤ a) : Priv B G a :=
  ⟨fun m => absurd (I.lt m) (Nat.not_lt.mpr e), fun m => absurd (I.tabLt m) (Nat.not_lt.mpr e), I.gNew e⟩
theorem Inv.priv {G : St} {H : AH} {h h' : Heap} (I : Inv B G H h) {a : Addr} (p : Priv B G a) (k : ∀ b o, b ≠ a → h.get? b = some o → h'.get? b = some o) : Inv B G H h' :=
  I.keeps fun b o q e => k b o (fun x => by
    subst x
    rcases q with q | q | q
    · rw [p.lg] at q; cases q
    · exact p.la q
    · exact p.lt q) e
noncomputable def cf (mt : AV → AF → AM AF) (mifs me : AF → AM AV) (F0 : AF) : AV → AM (Option AV) := fun x => abind (mt x F0) fun F' => abind (mifs F') fun b => abind (aopt (truthA b)) fun t => if t then abind (me F') fun v => apure (some v) else apure none
inductive CInv (B : Base) (Y : Addr → Prop) (Sx : Nat → St → Heap → Prop) (f : AV → AM (Option AV)) (xs ys : List AV) (H' : AH) (C D : Addr) (s : Shared) (G : St) (n : Nat) : Shared → Prop
  | mk {k : Nat} {G3 : St} {H3 : AH} {h3 : Heap} {t3 : Tok} {done rest : List AV} {vs : Array Value} {nn : Nat} (hk : n + k = xs.length) (st : Step B Y G s.heap G3 h3) (I : Inv B G3 H3 h3) (pC : Priv B G3 C) (pD : Priv B G3 D) (hn : ∃ m, h3.Ns C m)
    (hD : h3.get? D = some (lstO vs nn)) (rd : RepL B G3 done vs.toList) (S : Sx k G3 h3) (eq : acomp f (xs.drop k) H3 = some (rest, H')) (ey : ys = done ++ rest) : CInv B Y Sx f xs ys H' C D s G n { s with heap := h3, toks := t3 }
set_option tactic.hygienic true in
theorem comp_run (hA : A.handled = none) {e t it : Expr} {cs : List Expr} {sc' : Scope} {pos : Pos} {names : List (List Nat)} {caps : List (Nat × Nat)} {tg : Expr → Prop} {mi : AM (List AV)} {mt : AV → AF → AM AF} {mifs me : AF → AM AV}
    (K : ClosOk sc sc' ns names caps) (hf : noFold it = true) (htg : tg t) (hi : EvI B A T sc ns env F tg it mi)
    (ht : ∀ C, AsT B A T sc' names (compEnvC sc' (clos env sc'.names []) C env) t mt)
    (hifs : ∀ C F, EvTs B A T sc' names (compEnvC sc' (clos env sc'.names []) C env) F cs (mifs F))
    (he : ∀ C F, EvE B A T sc' names (compEnvC sc' (clos env sc'.names []) C env) F e (me F))
    {s : Shared} {G : St} {H H1 H' : AH} {xs ys : List AV} {l : List (Nat × AV)} (P : FrOK B T sc ns env F G s.heap) (I : Inv B G H s.heap) (e1 : mi H = some (xs, H1)) (el : capsOf F caps = some l)
    (e2 : acomp (cf mt mifs me (putCaps (List.replicate names.length none) l)) xs H1 = some (ys, H')) (hlen : ys.length ≤ line) {use : Option (Value → Sem Unit)} {Q E : Value → Shared → Prop}
    (hfin : ∀ D C G' h' tk' m, Step B Pure G s.heap G' h' → Inv B G' H' h' → FrOK B T sc ns env F G' h' → Rep B G' (.lst ys) (.ref D) → h'.Ns C m → Priv B G' C → s.heap.get? C = none →
      compPost (model B.prog B.w) A E use Q (.ref D) C (.ok .next) { s with heap := h', toks := tk' }) :
    wpAny (model B.prog B.w) A (comprehension (.ListComp e [⟨t, it, cs, 0⟩] sc' pos) sc' env (firstIterPos [⟨t, it, cs, 0⟩] pos) (newList []) false (eval it env) use) Q E s := by
  have S := scopeOk_iff K.scp
  have hfree : ∀ p ∈ sc'.names, p.2 = .free → ∃ c, env.cells.lookup p.1 = some c := (handed K P el).1
  have hnames : ∀ x ∈ sc'.names, x.2 = .local → sc'.names.lookup x.1 = some .local := fun x hx hl => by
    have := lookup_of_mem S.keys (p := x.1) (v := x.2) hx
    rw [this, hl]
  refine wpAny_comprehension_free rfl (fun x => fold_pure hf) (clos_for hfree) S.kind hnames ?_
  refine hi s G H xs H1 P I e1 _ _ fun v G1 h1 t1 s1 I1 P1 r1 => ?_
  refine r1 A _ hA rfl _ _ fun iv X Sx G2 h2 t2 s2 I2 W S0 fr => ?_
  refine wpAny_newObj_type (wpAny_newFunctionEnv K.cell (by intro y hy; cases hy) (fun h4 hns sb => ?_) S.kind)
  dsimp only at hns sb ⊢
  have hlst : ({ cls := .type "list", dict := none, data := .seq ([] : List Value).toArray } : Obj) = lstO #[] 0 := rfl
  have kk : ∀ b o, h2.get? b = some o → h4.get? b = some o := fun b o e => sb.extBut b o (fun q => by
    have := Heap.lt_size (Heap.get?_push_of_some (lstO #[] 0) e)
    rw [q] at this; exact absurd this (Nat.lt_irrefl _)) (Heap.get?_push_of_some _ (Heap.get?_push_of_some _ e))
  generalize hC : (h2.push ({ cls := .type "list", dict := none, data := .seq ([] : List Value).toArray } : Obj)).objs.size = C at hns sb ⊢
  have hCs : C = h2.objs.size + 1 := by rw [← hC, Heap.size_push]
  generalize hD : h2.objs.size = D at *
  have hDC : D ≠ C := by rw [hCs]; exact (Nat.succ_ne_self D).symm
  have hD4 : h4.get? D = some (lstO #[] 0) := by
    refine sb.extBut D _ hDC (Heap.get?_push_of_some _ ?_)
    rw [← hD]; exact Heap.get?_push_size _ rfl
  have pD : Priv B G2 D := Priv.new I2 (Nat.le_of_eq hD)
  have pC : Priv B G2 C := Priv.new I2 (by rw [hD, hCs]; exact Nat.le_succ D)
  have I4 : Inv B G2 H1 h4 := I2.keeps fun b o q_ e => kk b o e
  have s4 : Step B Pure G2 h2 G2 h4 := Step.priv kk
  have XC : ∀ b, X b → b ≠ C ∧ b ≠ D := fun b hb => by
    obtain ⟨_, o, eo⟩ := fr b hb
    have := Heap.lt_size eo
    rw [hD] at this
    exact ⟨fun q => by rw [q, hCs] at this; exact absurd this (Nat.not_lt.mpr (Nat.le_succ D)), fun q => by rw [q] at this; exact absurd this (Nat.lt_irrefl _)⟩
  have older : ∀ b, D ≤ b → s.heap.get? b = none := fun b hb => by
    cases q : s.heap.get? b with
    | none => rfl
    | some o =>
      obtain ⟨o1, q1⟩ := s1.live b o (fun q => q) q
      obtain ⟨o2, q2⟩ := s2.live b o1 (fun q => q) q1
      have := Heap.lt_size q2
      rw [hD] at this
      exact absurd this (Nat.not_lt.mpr hb)
  have rc := (handed K P el).2
  have S4 := W.stay 0 Pure G2 H1 h2 G2 H1 h4 S0 I2 I4 s4 (fun q_ q_ q => q)
  let Y : Addr → Prop := fun b => b = C ∨ b = D ∨ X b
  have Ynew : ∀ b, Y b → s.heap.get? b = none := fun b hb => by
    rcases hb with rfl | rfl | hb
    · exact older _ (by rw [hCs]; exact Nat.le_succ D)
    · exact older _ (Nat.le_refl _)
    · exact (fr b hb).1
  have s04 : Step B Y G s.heap G2 h4 := s1.pure.trans (s2.pure.trans s4.pure)
  have frame : ∀ {G3 : St} {h3 : Heap}, Step B Y G s.heap G3 h3 → Priv B G3 C → (∃ m, h3.Ns C m) → FrOK B T sc' names (compEnvC sc' (clos env sc'.names []) C env) (putCaps (List.replicate names.length none) l) G3 h3 := fun st p hn => by
    obtain ⟨m, hn⟩ := hn
    exact frOK_comp K P.glb P.blt P.tg P.tm (RepC.mono st.mono (fun q_ q_ e => st.alAt e) rc.1) rc.2.1 rc.2.2 p.lg p.la p.lt hn
  have own : ∀ b, Own sc' (compEnvC sc' (clos env sc'.names []) C env) b → b = C := fun b hb => by
    rcases hb with hb | ⟨x, hx, _⟩
    · exact hb
    · exact absurd rfl (K.cell _ (mem_of_lookup (isKind_iff.mp hx)))
  have main : ∀ s₃ : Shared, s₃ = { s with heap := h4, toks := t2 + ([] : List (Str × Value)).length } →
      codeAny (model B.prog B.w) A (.compLoop (.ListComp e [⟨t, it, cs, 0⟩] sc' pos) 0 iv (.ref D) (compEnvC sc' (clos env sc'.names []) C env)) (compPost (model B.prog B.w) A E use Q (.ref D) C) s₃ := by
    rintro s₃ rfl
    refine compLoopG (CInv B Y Sx (cf mt mifs me (putCaps (List.replicate names.length none) l)) xs ys H' C D s G) (fun n s' hI => ?_) xs.length (.mk (vs := #[]) (nn := 0) (done := []) (rest := ys) (k := 0) rfl s04 I4 pC pD ⟨_, hns⟩ hD4 rfl S4 e2 rfl)
    refine via fun R_ k_ => ?_
    obtain ⟨hk, s3, I3, pC3, pD3, ⟨m3, hn3⟩, hD3, rd, S3, eq, ey⟩ := hI
    refine k_ ?_
    rename_i k G3 H3 h3 t3 done rest vs nn
    cases n with
    | zero =>
      have hk : k = xs.length := by omega
      subst hk
      rw [List.drop_length] at eq
      obtain ⟨e8, rfl⟩ := apure_some eq
      subst e8
      rw [List.append_nil] at ey
      subst ey
      refine W.done A _ G3 _ hA S3 I3 _ _ fun G5 h5 t5 s5 I5 => ?_
      dsimp only at s5
      have nX : ¬ X C ∧ ¬ X D := ⟨fun q => (XC C q).1 rfl, fun q => (XC D q).2 rfl⟩
      refine via fun R_ k_ => ?_
      obtain ⟨oc, _, _, ec, _⟩ := id hn3
      refine k_ ?_
      have pC5 := pC3.step s5 nX.1 ec
      have pD5 := pD3.step s5 nX.2 hD3
      have hD5 := s5.keep D _ nX.2 pD3.la pD3.lt hD3
      have hn5 : h5.Ns C m3 := hn3.at' fun o e => s5.keep C o nX.1 pC3.la pC3.lt e
      have I6 := I5.freeze hD5 pD5.la pD5.lt fun o' e => by rw [pD5.lg] at e; cases e
      have mono : ∀ b o, G5.g b = some o → (G5.put D (lstO vs nn)).g b = some o := fun b o e => by
        simp only [St.put]
        split
        · rename_i x; subst x; rw [pD5.lg] at e; cases e
        · exact e
      have s35 : Step B Y G s.heap G5 h5 := s3.trans (s5.weak fun b q => .inr (.inr q))
      have s6 : Step B Y G5 h5 (G5.put D (lstO vs nn)) h5 := by
        refine ⟨fun b o q_ e => ⟨o, e⟩, mono, fun b o e hb => ?_, ⟨[], (List.append_nil _).symm, fun q_ hm => (List.not_mem_nil hm).elim⟩, fun b o q_ q_ q_ e => e⟩
        simp only [St.put]
        rw [if_neg (fun q : b = D => hb (.inr (.inl q)))]
      have stp := (s35.trans s6).shut Ynew
      refine hfin D C _ h5 t5 m3 stp I6 (P.step stp) ⟨D, vs, nn, rfl, St.put_at .., ?_⟩ hn5 ⟨pC5.la, pC5.lt, ?_⟩ (Ynew C (.inl rfl))
      · exact RepL.mono mono (fun q_ q_ e => e) (s5.repL rd)
      · simp only [St.put]
        rw [if_neg (fun q : C = D => hDC q.symm)]; exact pC5.lg
    | succ n =>
      have hlt : k < xs.length := by omega
      have hx : xs[k]? = some xs[k] := List.getElem?_eq_getElem hlt
      rw [List.drop_eq_getElem_cons hlt] at eq
      refine via fun R_ k_ => ?_
      obtain ⟨ov, H6, e5, eq⟩ := abind_some eq
      obtain ⟨rest', H7, e6, eq⟩ := abind_some eq
      obtain ⟨e7, rfl⟩ := apure_some eq
      obtain ⟨F4, H4, e8, e9⟩ := abind_some e5
      obtain ⟨tb, H5, e10, e11⟩ := abind_truth e9
      refine k_ ?_
      have nX : ¬ X C ∧ ¬ X D := ⟨fun q => (XC C q).1 rfl, fun q => (XC D q).2 rfl⟩
      refine W.item A k _ G3 H3 xs[k] hA hx S3 I3 _ _ fun v G4 h4' t4 s4' I4' r4 go => ?_
      dsimp only at s4'
      refine go A t _ htg rfl _ _ fun G5 h5 t5 s5 I5 S5 => ?_
      refine via fun R_ k_ => ?_
      obtain ⟨oc, _, _, ec, _⟩ := id hn3
      refine k_ ?_
      have ec4 := s4'.keep C oc nX.1 pC3.la pC3.lt ec
      have pC4 := pC3.step s4' nX.1 ec
      have hn4 : h4'.Ns C m3 := hn3.at' fun o e => s4'.keep C o nX.1 pC3.la pC3.lt e
      have hD4' := s4'.keep D _ nX.2 pD3.la pD3.lt hD3
      have pD4 := pD3.step s4' nX.2 hD3
      have pC5 := pC4.step s5 nX.1 ec4
      have hn5 : h5.Ns C m3 := hn4.at' fun o e => s5.keep C o nX.1 pC4.la pC4.lt e
      have hD5 := s5.keep D _ nX.2 pD4.la pD4.lt hD4'
      have pD5 := pD4.step s5 nX.2 hD4'
      have s35 : Step B Y G s.heap G5 h5 := s3.trans ((s4'.weak fun b q => .inr (.inr q)).trans (s5.weak fun b q => .inr (.inr q)))
      have P5 := frame s35 pC5 ⟨_, hn5⟩
      refine ht C _ _ G5 H3 xs[k] v F4 H4 P5 I5 (s5.rep r4) e8 _ _ fun G6 h6 t6 s6 I6 P6 => ?_
      dsimp only at s6
      have nO : ¬ Own sc' (compEnvC sc' (clos env sc'.names []) C env) D := fun q => hDC (own D q)
      have hD6 := s6.keep D _ nO pD5.la pD5.lt hD5
      have pD6 := pD5.step s6 nO hD5
      have S6 := W.stay (k + 1) _ G5 H3 h5 G6 H4 h6 S5 I5 I6 s6 (fun b hb q => (XC b hb).1 (own b q))
      have s36 : Step B Y G s.heap G6 h6 := s35.trans (s6.weak fun b q => .inl (own b q))
      refine hifs C F4 _ G6 H4 tb H5 P6 I6 (tst_of e10) _ _ fun ok G7 h7 t7 s7 I7 P7 r7 => ?_
      subst r7
      dsimp only at s7
      have hD7 := s7.keep D _ (fun q => q) pD6.la pD6.lt hD6
      have pD7 := pD6.step s7 (fun q => q) hD6
      have S7 := W.stay (k + 1) _ G6 H4 h6 G7 H5 h7 S6 I6 I7 s7 (fun q_ q_ q => q)
      have s37 : Step B Y G s.heap G7 h7 := s36.trans s7.pure
      have pC7 : Priv B G7 C := ⟨P7.la, P7.lt, P7.lg⟩
      cases ok with
      | false =>
        obtain ⟨e12, rfl⟩ := apure_some e11
        subst e12
        simp only [Bool.false_eq_true, if_false]
        obtain ⟨m7, hm7, _⟩ := P7.loc
        refine ⟨n, Nat.lt_succ_self n, .mk (k := k + 1) (by omega) s37 I7 pC7 pD7 ⟨m7, hm7⟩ hD7 (s7.repL (s6.repL (s5.repL (s4'.repL rd)))) S7 e6 ?_⟩
        rw [ey, ← e7]
      | true =>
        rw [if_pos rfl] at e11
        obtain ⟨z, H8, e12, e13⟩ := abind_some e11
        obtain ⟨e14, rfl⟩ := apure_some e13
        subst e14
        simp only [if_true]
        refine he C F4 _ G7 H5 z H6 P7 I7 e12 _ _ fun u G8 h8 t8 s8 I8 P8 r8 => ?_
        dsimp only at s8
        have hD8 := s8.keep D _ (fun q => q) pD7.la pD7.lt hD7
        have pD8 := pD7.step s8 (fun q => q) hD7
        have S8 := W.stay (k + 1) _ G7 H5 h7 G8 H6 h8 S7 I7 I8 s8 (fun q_ q_ q => q)
        have rd8 := s8.repL (s7.repL (s6.repL (s5.repL (s4'.repL rd))))
        have hsz : vs.size ≤ sizeLine := by
          rw [size_of rd]
          have h1 : done.length ≤ ys.length := by rw [ey, List.length_append]; omega
          have h2 : line ≤ sizeLine := by decide
          omega
        refine wpAny_list_append_plain (s := { s with heap := h8, toks := t8 }) (hsz := hsz) ⟨nn, hD8⟩ fun h9 hl9 sb9 => ?_
        obtain ⟨n9, hD9⟩ := hl9
        have k9 : ∀ b o, b ≠ D → h8.get? b = some o → h9.get? b = some o := fun b o hb e => sb9.extBut b o hb e
        have I9 := I8.priv pD8 k9
        have s9 : Step B Y G8 h8 G8 h9 := Step.own fun b o hb e => k9 b o (fun q => hb (.inr (.inl q))) e
        have s9' : Step B (· = D) G8 h8 G8 h9 := Step.own fun b o hb e => k9 b o hb e
        have S9 := W.stay (k + 1) _ G8 H6 h8 G8 H6 h9 S8 I8 I9 s9' (fun b hb q => (XC b hb).2 q)
        obtain ⟨m8, hm8, _⟩ := P8.loc
        refine ⟨n, Nat.lt_succ_self n, .mk (k := k + 1) (done := done ++ [z]) (by omega) (s37.trans (s8.pure.trans s9)) I9 ⟨P8.la, P8.lt, P8.lg⟩ pD8 ⟨m8, hm8.at' fun o e => k9 C o (Ne.symm hDC) e⟩ hD9 ?_ S9 e6 ?_⟩
        · rw [Array.toList_push]
          exact repL_append rd8 ⟨u, [], rfl, r8, rfl⟩
        · rw [ey, ← e7, List.append_assoc]; rfl
  exact codeAny_compStart_list (main _ rfl) (W.self A 0 _ G2 hA S4 _ _ (main _ rfl))
end
end
section
set_option Elab.async false
set_option autoImplicit false
set_option linter.unusedVariables false
set_option maxRecDepth 100000
set_option tactic.hygienic false
set_option genSizeOf false
set_option genInjectivity false
open PySem PySem.W PyProof.Rows PySem.Calls
section
variable {B : Base} {A : Around} {T : Tabs} {sc : Scope} {ns : List (List Nat)} {env : Env} {F : AF}
section
variable {G : St} {H : AH} {s : Shared}
theorem slm_lst {xs : List AV} {lo hi : Option Int} {a b : Addr} {v2 v3 : Value} {vs : Array Value} (I : Inv B G H s.heap) (sl : s.heap.IsSliceOf a v2 v3 .none) (n1 : ∀ i, lo = some i → -1 ≤ i) (n2 : ∀ i, hi = some i → -1 ≤ i) (k1 : IsPart v2 lo) (k2 : IsPart v3 hi)
    (hb : s.heap.IsList b vs) (ra : RepL B G xs vs.toList) (hz : xs.length ≤ 1048576) : ∃ T id, s.TypeIs (.ref b) T ∧ typeLookup (.type T) "__getitem__" = pure (some (.builtin id)) ∧ Yields B A (getItem (.ref b) (.ref a)) G H (H ++ [.list (cut xs lo hi)]) (.obj H.length) s := by
  refine ⟨"list", _, hb.typeIs, list_getitem_lookup, fun Q E hQ => ?_⟩
  have hsz := size_of ra
  refine wpAny_getItem_list_slice hb sl k1 k2 .none (by simp) ?_ (by rw [hsz, sizeLine_eq]; omega)
  have rc : RepL B G (cut xs lo hi) (slicePick vs lo hi none).toList := by
    rw [slicePick_plain, ← clip_eq n1, ← clip_eq n2]
    have := repL_cut ra lo hi
    rw [cut_eq, cut_eq, Array.length_toList] at this
    rw [cut_eq]
    exact this
  obtain ⟨G2, s2, I2, r2⟩ := new_lst I rc
  exact hQ _ _ _ s.toks s2 I2 r2
theorem op_slm {a : Addr} {x l u : AV} {zs : List AV} {v1 v2 v3 : Value} (e : aslc H x l u = some (.lst zs)) (I : Inv B G H s.heap) (sl : s.heap.IsSliceOf a v2 v3 .none) (r1 : Rep B G x v1) (r2 : Rep B G l v2) (r3 : Rep B G u v3) :
    ∃ T id, s.TypeIs v1 T ∧ typeLookup (.type T) "__getitem__" = pure (some (.builtin id)) ∧ Yields B A (getItem v1 (.ref a)) G H (H ++ [.list zs]) (.obj H.length) s := by
  refine via fun R_ k_ => ?_
  obtain ⟨lo, el, e⟩ := bind_some (o := part l) e
  obtain ⟨hi, eh, e⟩ := bind_some (o := part u) e
  obtain ⟨n1, p1, q1, q1', k1⟩ := part_some el r2
  obtain ⟨n2, p2, q2, q2', k2⟩ := part_some eh r3
  refine k_ ?_
  cases x with
  | tup xs => exact nomatch (aif_some e).2
  | lst xs =>
    obtain ⟨hz, e⟩ := aif_some e
    cases e
    obtain ⟨b, vs, rfl, hb, ra⟩ := isLst I r1
    exact slm_lst I sl n1 n2 k1 k2 hb ra hz
  | row xs =>
    obtain ⟨hz, e⟩ := aif_some e
    cases e
    obtain ⟨b, vs, rfl, hb, ra⟩ := isRow I r1
    exact slm_lst I sl n1 n2 k1 k2 hb ra hz
  | str cs => exact nomatch (aif_some e).2
  | obj n =>
    obtain ⟨xs, hH, e⟩ := bind_some (o := listAt H n) e
    obtain ⟨hz, e⟩ := aif_some e
    cases e
    obtain ⟨p, hp, rfl⟩ := r1
    obtain ⟨e1', vs, n, hg, ra⟩ := I.objs _ _ _ (listAt_some hH) hp
    exact slm_lst I sl n1 n2 k1 k2 ⟨_, hg, rfl, n, rfl⟩ ra hz
  | _ => exact nos e
end
theorem ev_slm {a : Expr} {l u : Option Expr} {p q : Pos} {ma ml mu : AM AV} (ha : EvE B A T sc ns env F a ma) (hl : EvP B A T sc ns env F l ml) (hu : EvP B A T sc ns env F u mu) :
    EvE B A T sc ns env F (.Subscript a (.Slice l u none q) p) (abind ma fun x => abind ml fun l => abind mu fun h => abind (aread fun H => aslc H x l h) fun v => abind (aopt (toLst v)) fun xs => anewL xs) := fun s G H z H' hP I eq Q E hQ => by
  refine via fun R_ k_ => ?_
  obtain ⟨x, H1, e1, eq⟩ := abind_some eq
  obtain ⟨y, H2, e2, eq⟩ := abind_some eq
  obtain ⟨w, H3, e3, eq⟩ := abind_some eq
  obtain ⟨v, e4, eq⟩ := abind_read eq
  obtain ⟨zs, e5, eq⟩ := abind_opt eq
  have e5 := toLst_some e5
  subst e5
  refine k_ ?_
  cases (show anewL zs H3 = some (z, H') from eq)
  refine sub_slice (ha s G H x H1 hP I e1 _ _ fun v1 G1 h1 t1 s1 I1 P1 r1 => wpAny_Slice ?_)
  refine hl _ G1 H1 y _ P1 I1 e2 _ _ fun v2 G2 h2 t2 s2 I2 P2 r2 => ?_
  refine hu _ G2 H2 w _ P2 I2 e3 _ _ fun v3 G3 h3 t3 s3 I3 P3 r3 => wpAny_pure ?_
  have s4 : Step B Pure G3 h3 (G3.put h3.objs.size { cls := .type "slice", data := .fields #[v2, v3, .none] }) (h3.push { cls := .type "slice", data := .fields #[v2, v3, .none] }) := Step.alloc I3 _
  refine via fun R_ k_ => ?_
  obtain ⟨T', id, hT, hl, hy⟩ := op_slm (A := A) (s := { s with heap := h3.push { cls := .type "slice", data := .fields #[v2, v3, .none] }, toks := t3 }) e4 (I3.alloc _ rfl) (Heap.IsSliceOf.new ..) (s4.rep (s3.rep (s2.rep r1))) (s4.rep (s3.rep r2)) (s4.rep r3)
  refine k_ ?_
  exact ⟨T', id, hT, hl, hy.use (P3.step s4) (s1.trans (s2.trans (s3.trans s4))) fun v G' h' tk' => hQ v G' h' tk'⟩
theorem bin_int {o : Op2} {x y : AV} {k : Int} (e : abin o x y = some (.int k)) (h1 : o ≠ .mul) (h2 : o ≠ .mod) (h3 : o ≠ .fdiv) : ∃ a b, x = .int a ∧ y = .int b ∧ ((o = .add ∧ k = a + b) ∨ (o = .sub ∧ k = a - b)) := by
  cases o with
  | add =>
    cases x with
    | int a =>
      obtain ⟨b, hb, e⟩ := map_some (o := toInt y) e
      cases e
      exact ⟨a, b, rfl, toInt_some hb, .inl ⟨rfl, rfl⟩⟩
    | str a => obtain ⟨b, hb, e⟩ := bind_some (o := toStr y) e; exact nomatch (aif_some e).2
    | tup a => obtain ⟨b, hb, e⟩ := bind_some (o := toTup y) e; exact nomatch (aif_some e).2
    | lst a => obtain ⟨b, hb, e⟩ := bind_some (o := toLst y) e; exact nomatch (aif_some e).2
    | _ => exact nos e
  | sub =>
    refine via fun R_ k_ => ?_
    obtain ⟨a, ha, e⟩ := bind_some (o := toInt x) e
    obtain ⟨b, hb, e⟩ := bind_some (o := toInt y) e
    obtain ⟨c, hc, e⟩ := map_some (o := some (a - b)) e
    refine k_ ?_
    cases hc
    cases e
    exact ⟨a, b, toInt_some ha, toInt_some hb, .inr ⟨rfl, rfl⟩⟩
  | mul => exact absurd rfl h1
  | mod => exact absurd rfl h2
  | fdiv => exact absurd rfl h3
theorem inplace_int {o : Op2} {x y : AV} {k : Int} {v w : Value} {G : St} {Q : Value → Shared → Prop} {E : Value → Shared → Prop} {s : Shared} (e : abin o x y = some (.int k)) (h1 : o ≠ .mul) (h2 : o ≠ .mod) (h3 : o ≠ .fdiv)
    (rx : Rep B G x v) (ry : Rep B G y w) (hQ : ∀ u tk, Q (.int k u) { s with toks := tk }) : wpAny (model B.prog B.w) A (inplaceOp o.op v w) Q E s := by
  obtain ⟨a, b, rfl, rfl, h⟩ := bin_int e h1 h2 h3
  obtain ⟨t, rfl⟩ := rx
  obtain ⟨u, rfl⟩ := ry
  rcases h with ⟨rfl, rfl⟩ | ⟨rfl, rfl⟩
  · exact AutoIntOps.iadd_0 (hQ _ _)
  · exact AutoIntOps.isub_0 (hQ _ _)
theorem ex_aug {i : Nat} {o : Op2} {n : List Nat} {x : Str} {e : Expr} {p' p : Pos} {me : AF → AM AV} (hn : ns[i]? = some n) (hx : isS n x = true) (hk : isKind sc x .local = true) (h1 : o ≠ .mul) (h2 : o ≠ .mod) (h3 : o ≠ .fdiv)
    (h : ∀ F, EvE B A T sc ns env F e (me F)) :
    ExS B A T sc ns env (exec (.AugAssign (.Name x p') o.op e p) env) (fun F => abind (aopt (F[i]?.join)) fun x => abind (me F) fun y => abind (aopt (abin o x y)) fun z => abind (aopt (toInt z)) fun k => apure (.next, F.set i (some (.int k)))) := fun F s G H fl F' H' P I eq Q E hQ => by
  obtain ⟨xv, e1x, eq⟩ := abind_opt eq
  obtain ⟨yv, H2, e2, eq⟩ := abind_some eq
  obtain ⟨zv, e3x, eq⟩ := abind_opt eq
  obtain ⟨k, e4, eq⟩ := abind_opt eq
  have e4 := toInt_some e4
  subst e4
  obtain ⟨e5, rfl⟩ := apure_some eq
  cases e5
  have eF := Option.join_eq_some_iff.mp e1x
  have hx' := isS_eq hx
  subst hx'
  refine via fun R_ k_ => ?_
  obtain ⟨m, hm, hl⟩ := P.loc
  obtain ⟨u, a, b⟩ := hl i n hn hk xv eF
  refine k_ ?_
  refine wpAny_AugAssign_Name (wpAny_loadName_local P.kind (P.kl _ hk) hm a ?_)
  refine h F s G _ yv _ P I e2 _ _ fun v G1 h1' t1 s1 I1 P1 r1 => ?_
  refine inplace_int e3x h1 h2 h3 (s1.rep b) r1 fun w tk => ?_
  have hk' : isKind sc (toS n) (if false = true then .cell else .local) = true := hk
  exact store_name (s := { s with heap := h1', toks := tk }) (c := false) P1 I1 hn hk' (fun h => nomatch h) (x := .int k) ⟨w, rfl⟩ fun G3 h3 tk3 s3 I3 P3 => hQ _ G3 h3 tk3 (s1.pure.trans s3) I3 P3 trivial
theorem ex_augA (K : ClassesOk B) {o : Op2} {f : Fld} {a e : Expr} {p' p : Pos} {ma me : AF → AM AV} (h1 : o ≠ .mul) (h2 : o ≠ .mod) (h3 : o ≠ .fdiv)
    (ha : ∀ F, EvE B A T sc ns env F a (ma F)) (h : ∀ F, EvE B A T sc ns env F e (me F)) :
    ExS B A T sc ns env (exec (.AugAssign (.Attribute a f.name p') o.op e p) env) (fun F => abind (ma F) fun x => abind (agetA x f) fun v => abind (me F) fun y => abind (aopt (abin o v y)) fun z => abind (aopt (toInt z)) fun k => abind (asetA x f (.int k)) fun q_ => apure (.next, F)) := fun F s G H fl F' H' P I eq Q E hQ => by
  refine via fun R_ k_ => ?_
  obtain ⟨xv, H1, e1, eq⟩ := abind_some eq
  obtain ⟨vv, H2, e2, eq⟩ := abind_some eq
  obtain ⟨yv, H3, e3, eq⟩ := abind_some eq
  obtain ⟨zv, e4x, eq⟩ := abind_opt eq
  obtain ⟨k, e4, eq2⟩ := abind_opt eq
  refine k_ ?_
  clear eq
  have e4 := toInt_some e4
  subst e4
  obtain ⟨u5, H5, e5, eq3⟩ := abind_some eq2
  obtain ⟨e6, rfl⟩ := apure_some eq3
  cases e6
  refine wpAny_AugAssign_AttributeAny (ha F s G H xv H1 P I e1 _ _ fun v G1 h1' t1 s1 I1 P1 r1 => ?_)
  obtain ⟨q, y⟩ := op_attr (s := { s with heap := h1', toks := t1 }) (A := A) (ex := true) K e2 I1 r1
  subst q
  refine y _ _ fun v2 G2 h2' t2 s2 I2 r2 => ?_
  refine h F _ G2 _ yv _ (P1.step s2) I2 e3 _ _ fun v3 G3 h3' t3 s3 I3 P3 r3 => ?_
  refine inplace_int e4x h1 h2 h3 (s3.rep r2) r3 fun w tk => ?_
  refine op_setAttr (s := { s with heap := h3', toks := tk }) K e5 I3 (s3.rep (s2.rep r1)) (show Rep B G3 (.int k) (.int k w) from ⟨w, rfl⟩) _ _ fun G4 h4 t4 s4 I4 => ?_
  have st := s1.trans (s2.trans (s3.trans s4))
  exact hQ _ G4 h4 t4 st.pure I4 (P.step st) trivial
end
end
section
set_option Elab.async false
set_option autoImplicit false
set_option linter.unusedVariables false
set_option maxRecDepth 100000
set_option tactic.hygienic false
set_option genSizeOf false
set_option genInjectivity false
open PySem PySem.W PyProof.Rows PySem.Calls
section
variable {B : Base} {A : Around} {T : Tabs} {sc : Scope} {ns : List (List Nat)} {env : Env} {F : AF}
theorem ev_comp (hA : A.handled = none) {e t it : Expr} {cs : List Expr} {sc' : Scope} {pos : Pos} {names : List (List Nat)} {caps : List (Nat × Nat)} {tg : Expr → Prop} {mi : AM (List AV)} {mt : AV → AF → AM AF} {mifs me : AF → AM AV}
    (K : ClosOk sc sc' ns names caps) (hf : noFold it = true) (htg : tg t) (hi : EvI B A T sc ns env F tg it mi)
    (ht : ∀ C, AsT B A T sc' names (compEnvC sc' (clos env sc'.names []) C env) t mt)
    (hifs : ∀ C F, EvTs B A T sc' names (compEnvC sc' (clos env sc'.names []) C env) F cs (mifs F))
    (he : ∀ C F, EvE B A T sc' names (compEnvC sc' (clos env sc'.names []) C env) F e (me F)) :
    EvE B A T sc ns env F (.ListComp e [⟨t, it, cs, 0⟩] sc' pos) (abind mi fun xs => abind (aopt (capsOf F caps)) fun l => abind (acomp (cf mt mifs me (putCaps (List.replicate names.length none) l)) xs) fun ys =>
      abind (aopt (aif (ys.length ≤ line) ())) fun q_ => apure (.lst ys)) := fun s G H z H' P I eq Q E hQ => by
  obtain ⟨xs, H1, e1, eq⟩ := abind_some eq
  obtain ⟨l, el, eq⟩ := abind_opt eq
  obtain ⟨ys, H3, e3, eq⟩ := abind_some eq
  obtain ⟨hl, eq⟩ := abind_aif eq
  obtain ⟨rfl, rfl⟩ := apure_some eq
  rw [eval_ListComp]
  refine comp_run hA K hf htg hi ht hifs he P I e1 el e3 hl fun D C G1 h1 t1 m s1 I1 P1 r1 hn pC new => ⟨m, hn, fun h2 sb => ?_⟩
  have k : ∀ b o, b ≠ C → h1.get? b = some o → h2.get? b = some o := fun b o hb e => sb.extBut b o hb e
  have I2 := I1.priv pC k
  have s2 : Step B (· = C) G1 h1 G1 h2 := Step.own fun b o hb e => k b o hb e
  have st := (s1.pure.trans s2).shut fun b (hb : b = C) => hb ▸ new
  exact hQ _ G1 h2 t1 st I2 (P.step st) r1
theorem ex_acomp (hA : A.handled = none) {i : Nat} {n : List Nat} {x : Str} {px p : Pos} {e t it : Expr} {cs : List Expr} {sc' : Scope} {pos : Pos} {names : List (List Nat)} {caps : List (Nat × Nat)} {tg : Expr → Prop} {mi : AF → AM (List AV)} {mt : AV → AF → AM AF} {mifs me : AF → AM AV}
    (hn : ns[i]? = some n) (hx : isS n x = true) (hk : isKind sc x .local = true)
    (K : ClosOk sc sc' ns names caps) (hf : noFold it = true) (htg : tg t) (hi : ∀ F, EvI B A T sc ns env F tg it (mi F))
    (ht : ∀ C, AsT B A T sc' names (compEnvC sc' (clos env sc'.names []) C env) t mt)
    (hifs : ∀ C F, EvTs B A T sc' names (compEnvC sc' (clos env sc'.names []) C env) F cs (mifs F))
    (he : ∀ C F, EvE B A T sc' names (compEnvC sc' (clos env sc'.names []) C env) F e (me F)) :
    ExS B A T sc ns env (exec (.Assign [.Name x px] (.ListComp e [⟨t, it, cs, 0⟩] sc' pos) p) env) (fun F => abind (abind (mi F) fun xs => abind (aopt (capsOf F caps)) fun l => abind (acomp (cf mt mifs me (putCaps (List.replicate names.length none) l)) xs) fun ys =>
      abind (aopt (aif (ys.length ≤ line) ())) fun q_ => apure (.lst ys)) fun v => abind (aopt (aif (i < F.length) ())) fun q_ => apure (.next, F.set i (some v))) := fun F s G H fl F' H' P I eq Q E hQ => by
  obtain ⟨z, H4, e4, eq4⟩ := abind_some eq
  obtain ⟨_, eq4⟩ := abind_aif eq4
  obtain ⟨e5, rfl⟩ := apure_some eq4
  cases e5
  have hx' := isS_eq hx
  subst hx'
  have hk' : isKind sc (toS n) (if false = true then .cell else .local) = true := hk
  have hsw : ∃ b, swapsWithSole [.Name (toS n) px] (.ListComp e [⟨t, it, cs, 0⟩] sc' pos) p.line env = pure b := ⟨_, rfl⟩
  obtain ⟨b, hsw⟩ := hsw
  cases b with
  | false =>
    rw [arm_exec_Assign]
    refine wpAny_bind (wpAny_standAt ?_)
    rw [hsw]
    refine wpAny_bind (wpAny_pure ?_)
    rw [if_neg (by decide)]
    refine wpAny_bind (ev_comp hA K hf htg (hi F) ht hifs he s G H z _ P I e4 _ _ fun v G1 h1 t1 s1 I1 P1 r1 => ?_)
    show wpAny _ A (do assignAll v [assign (.Name (toS n) px) env]; pure .next) Q E _
    exact wpAny_bind (wpAny_assign_Name (store_name (s := { s with heap := h1, toks := t1 }) (c := false) P1 I1 hn hk' (fun h => nomatch h) r1 fun G2 h2 t2 s2 I2 P2 => wpAny_pure (hQ _ G2 h2 t2 (s1.pure.trans s2) I2 P2 trivial)))
  | true =>
    refine via fun R_ k_ => ?_
    obtain ⟨xs, H1, e1, e5⟩ := abind_some e4
    obtain ⟨l, el, e5⟩ := abind_opt e5
    obtain ⟨ys, H3, e3, e5⟩ := abind_some e5
    obtain ⟨hl, e5⟩ := abind_aif e5
    refine k_ ?_
    clear eq e4
    obtain ⟨rfl, rfl⟩ := apure_some e5
    rw [exec_Assign_Name_used _ _ _ _ (show swapsWith (.ListComp e [⟨t, it, cs, 0⟩] sc' pos) (some (.Name (toS n) px)) p.line env = pure true from hsw)]
    refine wpAny_bind (wpAny_standAt (wpAny_bind ?_))
    show wpAny _ A (do let _ ← comprehension (.ListComp e [⟨t, it, cs, 0⟩] sc' pos) sc' env (firstIterPos [⟨t, it, cs, 0⟩] pos) (newList []) false (eval it env) (some (assign (.Name (toS n) px) env))) _ _ s
    refine wpAny_bind (wpAny_mono (comp_run (use := some (assign (.Name (toS n) px) env)) (Q := fun q_ s' => Q .next s') (E := E) hA K hf htg (hi F) ht hifs he P I e1 el e3 hl fun D C G1 h1 t1 m s1 I1 P1 r1 hnC pC new => ?_) (fun q_ s' hq => wpAny_pure (wpAny_pure hq)) fun q_ q_ e => e)
    show wpAny _ A (assign (.Name (toS n) px) env (.ref D)) _ E _
    refine wpAny_assign_Name (store_name (s := { s with heap := h1, toks := t1 }) (c := false) P1 I1 hn hk' (fun h => nomatch h) r1 fun G2 h2 t2 s2 I2 P2 => ?_)
    have nO : ¬ Own sc env C := fun q => by
      obtain ⟨o, e⟩ := P.own C q
      rw [new] at e; cases e
    refine via fun R_ k_ => ?_
    obtain ⟨oc, _, _, ec, _⟩ := id hnC
    refine k_ ?_
    have pC2 := pC.step s2 nO ec
    have hn2 : h2.Ns C m := hnC.at' fun o e => s2.keep C o nO pC.la pC.lt e
    refine ⟨m, hn2, fun h3 sb => ?_⟩
    have k : ∀ b o, b ≠ C → h2.get? b = some o → h3.get? b = some o := fun b o hb e => sb.extBut b o hb e
    have I3 := I2.priv pC2 k
    have s3 : Step B (· = C) G2 h2 G2 h3 := Step.own fun b o hb e => k b o hb e
    have all : Step B (fun b => Own sc env b ∨ b = C) G s.heap G2 h3 := s1.pure.trans ((s2.weak fun b q => .inl q).trans (s3.weak fun b q => .inr q))
    exact hQ _ G2 h3 t2 (all.shutTo fun b (hb : b = C) => hb ▸ new) I3 (P2.stepX s3 fun a ha (q : a = C) => nO (q ▸ ha)) trivial
inductive LInv (B : Base) (Y : Addr → Prop) (T : Tabs) (sc : Scope) (ns : List (List Nat)) (env : Env) (f : Nat → Nat → AF → AM (Flo × AF)) (r : (Flo × AF) × AH) (ix : Nat) (q : Addr × Option Addr) (itA : Addr) (s : Shared) (G : St) (n : Nat) : Shared → Prop
  | mk {k : Nat} {F3 : AF} {G3 : St} {H3 : AH} {h3 : Heap} {t3 : Tok} (st : Step B Y G s.heap G3 h3) (I : Inv B G3 H3 h3) (P : FrOK B T sc ns env F3 G3 h3) (p : Priv B G3 itA) (i : h3.IsListIter itA q.1 k) (hq : G3.al[ix]? = some q) (eq : f n k F3 H3 = some r) :
    LInv B Y T sc ns env f r ix q itA s G n { s with heap := h3, toks := t3 }
theorem forL_some {ix : Nat} {f : AV → AF → AM (Flo × AF)} {m k : Nat} {F : AF} {H : AH} {r : (Flo × AF) × AH} (e : aforL ix f (m + 1) k F H = some r) : ∃ xs, H[ix]? = some (.list xs) ∧
    ((xs[k]? = none ∧ r = ((.next, F), H)) ∨ ∃ x p H1, xs[k]? = some x ∧ f x F H = some (p, H1) ∧ athen (aforL ix f m (k + 1)) p H1 = some r) := by
  obtain ⟨⟨n, xs⟩, H1, e1, e2⟩ := abind_some e
  obtain ⟨h1, h2, rfl⟩ := alist_some e1
  cases h1
  refine ⟨xs, h2, ?_⟩
  cases hk : xs[k]? with
  | none =>
    rw [show ((n, xs) : Nat × List AV).2[k]? = none from hk] at e2
    cases e2
    exact .inl ⟨rfl, rfl⟩
  | some x =>
    rw [show ((n, xs) : Nat × List AV).2[k]? = some x from hk] at e2
    obtain ⟨p, H2, e3, e4⟩ := abind_some e2
    exact .inr ⟨x, p, H2, rfl, e3, e4⟩
set_option tactic.hygienic true in
theorem ex_forL (hA : A.handled = none) {t it : Expr} {a : List Stmt} {p : Pos} {me : AF → AM AV} {mt : AV → AF → AM AF} {ma : AF → AM (Flo × AF)} {W : Nat} (hf : noFold it = true) (he : ∀ F, EvE B A T sc ns env F it (me F))
    (ht : AsT B A T sc ns env t mt) (ha : ExS B A T sc ns env (execs a env) ma) :
    ExS B A T sc ns env (exec (.For t it a [] p) env) (fun F => abind (me F) fun v => abind (aopt (toObj v)) fun n => aforL n (fun x F => abind (mt x F) fun F' => ma F') W 0 F) := fun F s G H fl F' H' P I eq Q E hQ => by
  obtain ⟨z, H1, e1, eq2⟩ := abind_some eq
  obtain ⟨ix, hz, eq1⟩ := abind_opt eq2
  have hz := toObj_some hz
  subst hz
  clear eq eq2
  refine wpAny_For (he F s G H _ H1 P I e1 _ _ fun v G1 h1 t1 s1 I1 P1 r1 => ?_) (fun x => fold_pure hf)
  obtain ⟨q, hq, rfl⟩ := r1
  have first : ∃ xs, H1[ix]? = some (.list xs) := by
    cases W with
    | zero => exact nos (α := (Flo × AF) × AH) eq1
    | succ W => exact (forL_some eq1).elim fun xs h => ⟨xs, h.1⟩
  obtain ⟨xs0, hx0⟩ := first
  obtain ⟨e2, vs0, n0, hg0, ra0⟩ := I1.objs _ _ _ hx0 hq
  refine wpAny_pyIter_list (s := { s with heap := h1, toks := t1 }) ⟨_, hg0, rfl, n0, rfl⟩ ?_
  obtain ⟨st2, I2, own⟩ := push_itr (B := B) (s := { s with heap := h1, toks := t1 }) I1 (o := { cls := .type "list_iterator", data := .fields #[.ref q.1, .int 0 0] }) rfl
  dsimp only at st2 I2 own ⊢
  generalize hit : h1.objs.size = itA at *
  have newIt : s.heap.get? itA = none := by
    cases e : s.heap.get? itA with
    | none => rfl
    | some o =>
      obtain ⟨o', e'⟩ := s1.live itA o (fun q => q) e
      have := Heap.lt_size e'
      rw [hit] at this
      exact absurd this (Nat.lt_irrefl _)
  have nOwn : ∀ b, Own sc env b → b ≠ itA := fun b hb e => by
    obtain ⟨o, e'⟩ := P.own b hb
    rw [e, newIt] at e'; cases e'
  have iter0 : (h1.push { cls := .type "list_iterator", data := .fields #[.ref q.1, .int 0 0] }).IsListIter itA q.1 0 := ⟨_, by rw [← hit]; exact Heap.get?_push_size _ rfl, rfl, rfl⟩
  refine forLoopG (LInv B (fun b => Own sc env b ∨ b = itA) T sc ns env (aforL ix (fun x F => abind (mt x F) fun F' => ma F')) ((fl, F'), H') ix q itA s G) (fun n s' hI => ?_) W
    (.mk (k := 0) (s1.pure.trans st2.pure) I2 (P1.step st2) ⟨own.1, own.2.1, own.2.2.1⟩ iter0 hq eq1)
  refine via fun R_ k_ => ?_
  obtain ⟨s3, I3, P3, p3, i3, hq3, eq⟩ := hI
  refine k_ ?_
  rename_i k F3 G3 H3 h3 t3
  cases n with
  | zero => exact nos (α := (Flo × AF) × AH) eq
  | succ n =>
    refine via fun R_ k_ => ?_
    obtain ⟨xs, hH, eq⟩ := forL_some eq
    obtain ⟨e2', vs, nn, hg, ra⟩ := I3.objs _ _ _ hH hq3
    refine k_ ?_
    rcases eq with ⟨hx, eq⟩ | ⟨x, ⟨f1, F6⟩, H6, hx, e6, eq6⟩
    · cases eq
      have hnone : vs[k]? = none := by
        cases e : vs[k]? with
        | none => rfl
        | some u =>
          obtain ⟨x, hx', _⟩ := repL_at ra k u (by rw [Array.getElem?_toList]; exact e)
          rw [hx] at hx'; cases hx'
      refine wpAny_pyNext_list_end (s := { s with heap := h3, toks := t3 }) hA i3 ⟨_, hg, rfl, nn, rfl⟩ hnone fun h4 eb => wpAny_execs_nil ?_
      have k4 : ∀ b o, b ≠ itA → h3.get? b = some o → h4.get? b = some o := fun b o hb e => eb b o hb e
      have I4 := I3.priv p3 k4
      have s4 : Step B (· = itA) G3 h3 G3 h4 := Step.own fun b o hb e => k4 b o hb e
      have all : Step B (fun b => Own sc env b ∨ b = itA) G s.heap G3 h4 := s3.trans (s4.weak fun b q => .inr q)
      exact hQ _ G3 h4 t3 (all.shutTo fun b (hb : b = itA) => hb ▸ newIt) I4 (P3.stepX s4 fun b hb (e : b = itA) => nOwn b hb e) trivial
    · obtain ⟨u, hu, ru⟩ := repL_get ra k x hx
      rw [Array.getElem?_toList] at hu
      refine wpAny_pyNext_list_item (s := { s with heap := h3, toks := t3 }) i3 ⟨_, hg, rfl, nn, rfl⟩ hu fun h4 i4 sb => ?_
      dsimp only at sb
      have k4 : ∀ b o, b ≠ itA → h3.get? b = some o → h4.get? b = some o := fun b o hb e => sb.extBut b o hb e
      have I4 := I3.priv p3 k4
      have s4 : Step B (· = itA) G3 h3 G3 h4 := Step.own fun b o hb e => k4 b o hb e
      have P4 := P3.stepX s4 fun b hb (e : b = itA) => nOwn b hb e
      obtain ⟨o4, eo4, co4, _⟩ := id i4
      refine goes_plain (B := B) (X := fun q_ => False) (S := fun q_ h => h.IsListIter itA q.1 (k + 1)) (v := u) eo4 co4 (by decide) I4 i4 A t { s with heap := h4, toks := t3 } trivial rfl _ _ fun G5 h5 t5 s5 I5 i5 => ?_
      have s5' : Step B (fun q_ => False) G3 h4 G5 h5 := s5
      obtain ⟨F7, H7, e7, e8⟩ := abind_some e6
      have nO : ¬ Own sc env itA := fun e => nOwn _ e rfl
      have P5 := P4.stepX s5' fun q_ q_ q => q
      have p5 := p3.step s5' (fun q => q) eo4
      have s35 : Step B (fun b => Own sc env b ∨ b = itA) G s.heap G5 h5 := s3.trans ((s4.weak fun b q => .inr q).trans (s5'.weak fun b q => q.elim))
      refine ht F3 _ G5 H3 x u F7 H7 P5 I5 (s5'.rep ru) e7 _ _ fun G7 h7 t7 s7 I7 P7 => ?_
      have s7' : Step B (Own sc env) G5 h5 G7 h7 := s7
      obtain ⟨o5, eo5, _⟩ := id i5
      have i7 : h7.IsListIter itA q.1 (k + 1) := Heap.IsListIter.at i5 fun o e => s7'.keep itA o nO p5.la p5.lt e
      have p7 := p5.step s7' nO eo5
      refine ha F7 _ G7 H7 f1 F6 H6 P7 I7 e8 _ _ fun f G8 h8 t8 s8 I8 P8 r8 => ?_
      have s8' : Step B (Own sc env) G7 h7 G8 h8 := s8
      obtain ⟨o7, eo7, _⟩ := id i7
      have i8 : h8.IsListIter itA q.1 (k + 1) := Heap.IsListIter.at i7 fun o e => s8'.keep itA o nO p7.la p7.lt e
      have p8 := p7.step s8' nO eo7
      have all : Step B (fun b => Own sc env b ∨ b = itA) G s.heap G8 h8 := s35.trans ((s7'.weak fun b q => .inl q).trans (s8'.weak fun b q => .inl q))
      cases f1 with
      | next =>
        cases f with
        | next => exact ⟨n, Nat.lt_succ_self n, .mk (k := k + 1) all I8 P8 p8 i8 (s8'.alAt (s7'.alAt (s5'.alAt hq3))) eq6⟩
        | _ => exact r8.elim
      | ret v =>
        obtain ⟨e9, rfl⟩ := apure_some eq6
        cases e9
        cases f with
        | ret u => exact hQ _ G8 h8 t8 (all.shutTo fun b (hb : b = itA) => hb ▸ newIt) I8 P8 r8
        | _ => exact r8.elim
end
end
section
set_option Elab.async false
set_option autoImplicit false
set_option linter.unusedVariables false
set_option maxRecDepth 100000
set_option tactic.hygienic false
set_option genSizeOf false
set_option genInjectivity false
open PySem PySem.W PyProof.Rows PySem.Calls
section
variable {B : Base} {A : Around} {T : Tabs} {sc : Scope} {ns : List (List Nat)} {env : Env} {F : AF}
noncomputable abbrev EvD (B : Base) (A : Around) (T : Tabs) (sc : Scope) (ns : List (List Nat)) (env : Env) (F : AF) {K : Type} [DecidableEq K] (knd : KeyKind B.prog B.w K) (keys : List K) (p : Pos) (kes : List (Option Expr)) (ves : List Expr) (m : AM (List AV)) : Prop :=
  Ev B A (FrOK B T sc ns env F) (evalPairs (pairTrees kes ves env p)) (fun G xs prs => ∃ kvs : List (K × Value), Carries knd prs kvs ∧ kvs.map (·.1) = keys ∧ RepL B G xs (kvs.map (·.2))) m
theorem evD_nil {K : Type} [DecidableEq K] {knd : KeyKind B.prog B.w K} {p : Pos} {ves : List Expr} : EvD B A T sc ns env F knd [] p [] ves (apure []) := fun s G H x H' hP I e Q E hQ => by
  obtain ⟨rfl, rfl⟩ := apure_some e
  exact wpAny_pure (hQ [] G s.heap s.toks (Step.refl ..) I hP ⟨[], trivial, rfl, rfl⟩)
theorem evD_cons {K : Type} [DecidableEq K] {knd : KeyKind B.prog B.w K} {k : K} {keys : List K} {p : Pos} {ke : Expr} {kes : List (Option Expr)} {ve : Expr} {ves : List Expr} {m : AM AV} {ms : AM (List AV)}
    (hk : ∀ (s : Shared) (Q : Value → Shared → Prop) (E : Value → Shared → Prop), (∀ v tk, knd.is k v = true → Q v { s with toks := tk }) → wpAny (model B.prog B.w) A (eval ke env) Q E s)
    (hv : EvE B A T sc ns env F ve m) (hr : EvD B A T sc ns env F knd keys p kes ves ms) : EvD B A T sc ns env F knd (k :: keys) p (some ke :: kes) (ve :: ves) (abind m fun x => abind ms fun xs => apure (x :: xs)) := fun s G H xs H' hP I eq Q E hQ => by
  obtain ⟨x, H1, e1, eq1⟩ := abind_some eq
  obtain ⟨xs', H2, e2, eq2⟩ := abind_some eq1
  obtain ⟨rfl, rfl⟩ := apure_some eq2
  show wpAny _ A (do
    let kv ← eval ke env
    let vv ← holding [kv] (do let x ← eval ve env; standAt p; pure x)
    let r ← holding [kv, vv] (evalPairs (pairTrees kes ves env p))
    pure ((kv, vv) :: r)) Q E s
  refine wpAny_bind (hk s _ _ fun kv tk hkv => ?_)
  refine wpAny_bind (wpAny_holding (wpAny_bind (hv { s with toks := tk } G H x H1 hP I e1 _ _ fun v G1 h1 t1 s1 I1 P1 r1 => wpAny_bind (wpAny_standAt (wpAny_pure ?_)))))
  refine wpAny_bind (wpAny_holding (hr _ G1 H1 xs' _ P1 I1 e2 _ _ fun prs G2 h2 t2 s2 I2 P2 r2 => wpAny_pure ?_))
  obtain ⟨kvs, c1, c2, c3⟩ := r2
  exact hQ _ G2 h2 t2 (s1.trans s2) I2 P2 ⟨(k, v) :: kvs, ⟨hkv, rfl, c1⟩, by simp [c2], v, _, rfl, s2.rep r1, c3⟩
theorem ev_display {K : Type} [DecidableEq K] {knd : KeyKind B.prog B.w K} {keys : List K} {p : Pos} {kes : List (Option Expr)} {ves : List Expr} {ms : AM (List AV)} (h : EvD B A T sc ns env F knd keys p kes ves ms)
    (hall : kes.all (·.isSome) = true) (hl : kes.length = ves.length) (h0 : kes ≠ []) (hlen : kes.length ≤ 15) (hkl : keys.length = kes.length) (nd : keys.Nodup)
    {s : Shared} {G : St} {H H' : AH} {xs : List AV} (P : FrOK B T sc ns env F G s.heap) (I : Inv B G H s.heap) (eq : ms H = some (xs, H')) {Q : Value → Shared → Prop} {E : Value → Shared → Prop}
    (hQ : ∀ G' h' tk' kvs, Step B Pure G s.heap G' h' → Inv B G' H' h' → FrOK B T sc ns env F G' h' → Priv B G' s.heap.objs.size → h'.DictOf knd s.heap.objs.size kvs → kvs.map (·.1) = keys → RepL B G' xs (kvs.map (·.2)) → Q (.ref s.heap.objs.size) { s with heap := h', toks := tk' }) :
    wpAny (model B.prog B.w) A (eval (.Dict kes ves p) env) Q E s := by
  have k0 : ∀ b o, s.heap.get? b = some o → (s.heap.push ({ cls := .type "dict", data := .dict #[] } : Obj)).get? b = some o := fun b o e => Heap.get?_push_of_some _ e
  have s0 : Step B Pure G s.heap G (s.heap.push { cls := .type "dict", data := .dict #[] }) := Step.priv k0
  have I0 : Inv B G H (s.heap.push { cls := .type "dict", data := .dict #[] }) := I.keeps fun b o q_ e => k0 b o e
  have p0 : Priv B G s.heap.objs.size := Priv.new I (Nat.le_refl _)
  have d0 : (s.heap.push ({ cls := .type "dict", data := .dict #[] } : Obj)).get? s.heap.objs.size = some { cls := .type "dict", data := .dict #[] } := Heap.get?_push_size _ rfl
  refine wpAny_Dict_pairs (knd := knd) (zip_pairTrees kes ves env p hall hl) (fun e => ?_) (by rw [pairTrees_length kes ves env p hall hl]; exact hlen) ?_
  · have := pairTrees_length kes ves env p hall hl
    rw [e] at this
    exact h0 (List.length_eq_zero_iff.mp this.symm)
  refine h { s with heap := s.heap.push { cls := .type "dict", data := .dict #[] } } G H xs H' (P.step s0) I0 eq _ _ fun prs G1 h1 t1 s1 I1 P1 r1 => ?_
  obtain ⟨kvs, c1, c2, c3⟩ := r1
  dsimp only at s1
  have p1 := p0.step s1 (fun q => q) d0
  have d1 := s1.keep _ _ (fun q => q) p0.la p0.lt d0
  refine ⟨kvs, c1, ⟨_, #[], 0, d1, ⟨rfl, rfl, rfl⟩, rfl, (fun e he => absurd he (by simp)), .nil, List.nodup_nil⟩, fun h2 hd sb => ?_⟩
  have kn : (kvs.map (·.1)).Nodup := by rw [c2]; exact nd
  rw [merged_nil_of_nodup kvs kn] at hd
  have k2 : ∀ b o, b ≠ s.heap.objs.size → h1.get? b = some o → h2.get? b = some o := fun b o hb e => sb.extBut b o hb e
  have I2 := I1.priv p1 k2
  have s2 : Step B (· = s.heap.objs.size) G1 h1 G1 h2 := Step.own fun b o hb e => k2 b o hb e
  have st := ((s0.trans s1).pure.trans s2).shut fun b (hb : b = s.heap.objs.size) => hb ▸ Heap.get?_end _
  exact hQ G1 h2 _ kvs st I2 (P.step st) p1 hd c2 c3
theorem valueAt_find {K : Type} [DecidableEq K] {keys : List K} {xs : List AV} {G : St} : ∀ {kvs : List (K × Value)}, kvs.map (·.1) = keys → RepL B G xs (kvs.map (·.2)) → ∀ (k : K) (x : AV), ((keys.zip xs).find? fun p => decide (k = p.1)).map (·.2) = some x →
    ∃ v, valueAt kvs k = some v ∧ Rep B G x v := by
  induction keys generalizing xs with
  | nil => intro kvs _ _ k x e; cases e
  | cons k0 keys ih =>
    intro kvs hk hr k x e
    cases kvs with
    | nil => cases hk
    | cons p kvs =>
      obtain ⟨pk, pv⟩ := p
      rw [List.map_cons] at hk
      injection hk with hk1 hk2
      cases xs with
      | nil => cases e
      | cons y ys =>
        refine via fun R_ k_ => ?_
        obtain ⟨v, r, er, ra, rb⟩ := hr
        refine k_ ?_
        rw [List.map_cons] at er
        injection er with er1 er2
        subst er1 er2
        dsimp only at hk1
        subst hk1
        rw [List.zip_cons_cons, List.find?_cons] at e
        unfold valueAt
        rw [List.find?_cons]
        by_cases hkk : k = pk
        · subst hkk
          rw [decide_eq_true rfl] at e ⊢
          dsimp only at e
          cases e
          exact ⟨_, rfl, ra⟩
        · have d1 : decide (k = pk) = false := decide_eq_false hkk
          have d2 : decide (pk = k) = false := decide_eq_false fun q => hkk q.symm
          rw [d1] at e
          rw [show (decide ((pk, pv).1 = k)) = false from d2]
          exact ih hk2 rb k x e
theorem find_toS (cs : List Nat) : ∀ (ks : List (List Nat)) (xs : List AV), (((ks.map toS).zip xs).find? fun p => decide (toS cs = p.1)).map (·.2) = ((ks.zip xs).find? fun p => decide (cs = p.1)).map (·.2)
  | [], _ => rfl
  | k :: ks, [] => rfl
  | k :: ks, x :: xs => by
    rw [List.map_cons, List.zip_cons_cons, List.zip_cons_cons, List.find?_cons, List.find?_cons]
    by_cases q : cs = k
    · simp [q]
    · simp only [q, toS_inj, decide_false]
      exact find_toS cs ks xs
theorem ev_pick {ks : List (List Nat)} {p p' : Pos} {kes : List (Option Expr)} {ves : List Expr} {se : Expr} {ms : AM (List AV)} {mk : AM AV}
    (h : EvD B A T sc ns env F (strKind B.prog B.w) (ks.map toS) p kes ves ms) (hall : kes.all (·.isSome) = true) (hl : kes.length = ves.length) (h0 : kes ≠ []) (hlen : kes.length ≤ 15) (hkl : ks.length = kes.length) (nd : ks.Nodup)
    (hs : isName se = true) (hk : EvE B A T sc ns env F se mk) :
    EvE B A T sc ns env F (.Subscript (.Dict kes ves p) se p') (abind ms fun xs => abind mk fun v => abind (aopt (toStr v)) fun s => aopt (((ks.zip xs).find? fun p => decide (s = p.1)).map (·.2))) := fun s G H z H' P I eq Q E hQ => by
  refine via fun R_ k_ => ?_
  obtain ⟨xs, H1, e1, eq1⟩ := abind_some eq
  obtain ⟨cs, H2, e2, eq2⟩ := abind_str eq1
  refine k_ ?_
  clear eq eq1
  obtain ⟨e3, rfl⟩ := aopt_some eq2
  have ndS : (ks.map toS).Nodup := List.Pairwise.map toS (fun a b (q : a ≠ b) q' => q (toS_inj.mp q')) nd
  refine sub_item (fun l u p q => by rw [q] at hs; exact bad hs) (ev_display h hall hl h0 hlen (by rw [List.length_map, hkl]) ndS P I e1 fun G1 h1 t1 kvs s1 I1 P1 p1 hd hkv rv => ?_)
  refine hk { s with heap := h1, toks := t1 } G1 H1 _ _ P1 I1 e2 _ _ fun w G2 h2 t2 s2 I2 P2 r2 => ?_
  dsimp only at s2
  obtain ⟨od, es, ep, ed, rest⟩ := id hd
  have hd2 : h2.DictOf (strKind B.prog B.w) s.heap.objs.size kvs := ⟨od, es, ep, s2.keep _ _ (fun q => q) p1.la p1.lt ed, rest⟩
  obtain ⟨t, rfl⟩ := r2
  have e4 : (((ks.map toS).zip xs).find? fun p => decide (toS cs = p.1)).map (·.2) = some z := by
    rw [← e3]; exact find_toS cs ks xs
  obtain ⟨u, hu, ru⟩ := valueAt_find (B := B) hkv rv (toS cs) z e4
  exact ⟨"dict", _, hd2.typeIs (s := { s with heap := h2, toks := t2 }), slot_dict_getitem.lookup, wpAny_getItem_of (knd := strKind B.prog B.w) (s := { s with heap := h2, toks := t2 }) (strKind_is _ _ _ t) hd2.mapOf hu (hQ u G2 h2 _ (s1.trans s2) I2 (P.step (s1.trans s2)) (s2.rep ru))⟩
theorem evD_str {cs : List Nat} {x : Str} {k : Nat} {p : Pos} (hx : isS cs x = true) (s : Shared) (Q : Value → Shared → Prop) (E : Value → Shared → Prop) (hQ : ∀ v tk, (strKind B.prog B.w).is (toS cs) v = true → Q v { s with toks := tk }) :
    wpAny (model B.prog B.w) A (eval (.Constant (.str x) k p) env) Q E s := by
  rw [isS_eq hx]
  exact wpAny_Constant_str (hQ _ _ (strKind_is _ _ _ _))
theorem evD_int {i : Int} {k : Nat} {p : Pos} (s : Shared) (Q : Value → Shared → Prop) (E : Value → Shared → Prop) (hQ : ∀ v tk, (intKind B.prog B.w).is i v = true → Q v { s with toks := tk }) :
    wpAny (model B.prog B.w) A (eval (.Constant (.int i) k p) env) Q E s :=
  wpAny_Constant_int (hQ _ _ (intKind_is _ _ _ _))
noncomputable def kints : List (Int × Int) → AM (List AV)
  | [] => apure []
  | p :: r => abind (apure (.int p.2)) fun x => abind (kints r) fun xs => apure (x :: xs)
theorem ints_eq : ∀ (l : List (Int × Int)) (H : AH), kints l H = some (l.map fun p => .int p.2, H)
  | [], H => rfl
  | p :: r, H => by
    show abind (apure (AV.int p.2)) _ H = _
    rw [abind_eq (show apure (AV.int p.2) H = some (AV.int p.2, H) from rfl), abind_eq (ints_eq r H)]; rfl
theorem isNm_i {ns : List (List Nat)} {i : Nat} {x : Str} (h : isNm ns i x = true) : ∃ n, ns[i]? = some n ∧ isS n x = true := onS_i h
theorem mKi_nil {kes : List (Option Expr)} {ves : List Expr} (h : mKi [] kes ves = true) : kes = [] ∧ ves = [] := by
  have h := (Bool.and_eq_true _ _).mp (show (on0 kes && on0 ves) = true from h)
  exact ⟨on0_i h.1, on0_i h.2⟩
theorem mKi_cons {q : Int × Int} {r : List (Int × Int)} {kes : List (Option Expr)} {ves : List Expr} (h : mKi (q :: r) kes ves = true) : ∃ k1 p1 ks k2 p2 vs, kes = some (.Constant (.int q.1) k1 p1) :: ks ∧ ves = .Constant (.int q.2) k2 p2 :: vs ∧ mKi r ks vs = true := by
  refine onC_e (f := _) h fun x ks h => ?_
  have h := (Bool.and_eq_true _ _).mp h
  refine onS_e h.1 fun x h1 => ?_
  refine onConstant_e h1 fun c k1 p1 h1 => ?_
  refine coInt_e h1 fun i h1 => ?_
  refine onC_e h.2 fun y vs h2 => ?_
  have h2 := (Bool.and_eq_true _ _).mp h2
  refine onConstant_e h2.1 fun d k2 p2 h3 => ?_
  refine coInt_e h3 fun j h3 => ?_
  rw [← of_decide_eq_true h1, ← of_decide_eq_true h3]
  exact ⟨k1, p1, ks, k2, p2, vs, rfl, rfl, h2.2⟩
theorem evD_ints {p : Pos} : ∀ {kvs : List (Int × Int)} {kes : List (Option Expr)} {ves : List Expr}, mKi kvs kes ves = true → EvD B A T sc ns env F (intKind B.prog B.w) (kvs.map (·.1)) p kes ves (kints kvs) ∧ kes.all (·.isSome) = true ∧ kes.length = ves.length ∧ kvs.length = kes.length := fun {kvs} => by
  induction kvs with
  | nil =>
    intro kes ves h
    obtain ⟨rfl, rfl⟩ := mKi_nil h
    exact ⟨evD_nil, rfl, rfl, rfl⟩
  | cons q r ih =>
    intro kes ves h
    obtain ⟨k1, p1, ks, k2, p2, vs, rfl, rfl, h3⟩ := mKi_cons h
    obtain ⟨a, b, c, d⟩ := ih h3
    refine ⟨?_, ?_, by simp [c], by simp [d]⟩
    · exact evD_cons (fun s Q E hQ => evD_int s Q E hQ) ev_int a
    · rw [List.all_cons, b]; rfl
end
end
section
set_option Elab.async false
set_option autoImplicit false
set_option linter.unusedVariables false
set_option maxRecDepth 100000
set_option tactic.hygienic false
set_option genSizeOf false
set_option genInjectivity false
open PySem PySem.W PyProof.Rows PySem.Calls
section
variable {B : Base} {A : Around} {T : Tabs} {sc : Scope} {ns : List (List Nat)} {env : Env} {F : AF}
theorem valueAt_ints {G : St} (i : Int) (w : Value) (y : AV) (ry : Rep B G y w) : ∀ {kvs : List (Int × Int)} {l : List (Int × Value)}, l.map (·.1) = kvs.map (·.1) → RepL B G (kvs.map fun p => AV.int p.2) (l.map (·.2)) →
    Rep B G (match kvs.find? fun p => decide (i = p.1) with | some p => .int p.2 | none => y) ((valueAt l i).getD w)
  | [], [], _, _ => ry
  | [], _ :: _, h, _ => by cases h
  | _ :: _, [], h, _ => by cases h
  | p :: kvs, q :: l, h, r => by
    rw [List.map_cons, List.map_cons] at h
    injection h with h1 h2
    refine via fun R_ k_ => ?_
    obtain ⟨v, r', e, ra, rb⟩ := r
    refine k_ ?_
    rw [List.map_cons] at e
    injection e with e1 e2
    subst e1 e2
    unfold valueAt
    rw [List.find?_cons, List.find?_cons]
    by_cases hk : i = p.1
    · rw [decide_eq_true hk, show decide (q.1 = i) = true from decide_eq_true (by rw [h1, hk])]
      exact ra
    · rw [decide_eq_false hk, show decide (q.1 = i) = false from decide_eq_false (by rw [h1]; exact fun x => hk x.symm)]
      exact valueAt_ints i w y ry h2 rb
theorem ev_dget (O : BaseOk B) {kvs : List (Int × Int)} {kes : List (Option Expr)} {ves : List Expr} {dp apos pos : Pos} {n : Str} {x y : Expr} {mk md : AM AV}
    (h : mKi kvs kes ves = true) (hn : n = Me.get.name) (hp : (apos.endLine == pos.line) = true) (nd : (kvs.map (·.1)).Nodup) (hlen : kvs.length ≤ 15) (h0 : kvs ≠ []) (hx : isStar x = false) (hy : isStar y = false)
    (hk : EvE B A T sc ns env F x mk) (hd : EvE B A T sc ns env F y md) :
    EvE B A T sc ns env F (.Call (.Attribute (.Dict kes ves dp) n apos) [x, y] [] pos) (abind mk fun x => abind md fun y => abind (aopt (toInt x)) fun i => apure (match kvs.find? fun p => decide (i = p.1) with
      | some p => .int p.2
      | none => y)) := fun s G H z H' P I eq Q E hQ => by
  subst hn
  obtain ⟨k, H1, e1, eq⟩ := abind_some eq
  obtain ⟨d, H2, e2, eq⟩ := abind_some eq
  obtain ⟨i, hi, eq⟩ := abind_opt eq
  have hi := toInt_some hi
  subst hi
  obtain ⟨rfl, rfl⟩ := apure_some eq
  obtain ⟨a, b, c, dd⟩ := evD_ints (B := B) (A := A) (T := T) (sc := sc) (ns := ns) (env := env) (F := F) (p := dp) h
  have hs : ([x, y].all fun e => !isStar e) = true := by simp [hx, hy]
  have hns := (noStar_trees (env := env) (p := pos) hs).1
  have hkl : kes ≠ [] := fun q => by
    rw [q] at dd
    exact h0 (List.length_eq_zero_iff.mp dd)
  refine wpAny_Call_method_lateS rfl (few_args hs (by simp)) hp (ev_display a b c hkl (by rw [← dd]; exact hlen) (by rw [List.length_map]; exact dd) nd P I (ints_eq kvs H) fun G1 h1 t1 l s1 I1 P1 p1 hdd hkv rv => ?_)
  refine via fun R_ k_ => ?_
  obtain ⟨od, es, ep, ed, hex, rest⟩ := id hdd
  refine k_ ?_
  have hne : (s.heap.objs.size == sysModules) = false := by
    obtain ⟨mc, hns', _⟩ := O.lim
    have := (I.ns O.limT hns').lt
    have e2 : cStatics = 2 := rfl
    have e1 : sysModules = 1 := rfl
    rw [e1]
    rw [e2] at this
    rw [beq_eq_false_iff_ne]
    exact fun q => by rw [q] at this; exact absurd this (by decide)
  refine ⟨"dict", "dict.get", PySem.F.plainAttrs_dict, PySem.F.slot_dict_get, PySem.F.type_dict_get, hdd.typeIs (s := { s with heap := h1, toks := t1 }), fun a ea => by cases ea; exact ⟨_, ed, hex.2.1⟩, ?_⟩
  refine callWith_builtin hns (evalArgs_of hns ?_)
  refine evl_cons (p := pos) hx hk (evl_cons hy hd evl_nil) { s with heap := h1, toks := t1 } G1 H [.int i, d] H' P1 I1 (by rw [abind_eq e1, abind_eq (abind_eq e2)]; rfl) _ _ fun vs G2 h2 t2 s2 I2 P2 r2 => ?_
  obtain ⟨v, w, rfl, rk, rd⟩ := repL_two r2
  obtain ⟨t, rfl⟩ := rk
  dsimp only at s2
  have hd2 : h2.DictOf (intKind B.prog B.w) s.heap.objs.size l := ⟨od, es, ep, s2.keep _ _ (fun q => q) p1.la p1.lt ed, hex, rest⟩
  refine call_meetsIn PySem.F.slot_dict_get (hd2.typeIs (s := { s with heap := h2, toks := t2 })) PySem.F.entry_dict_get (PySem.F.args_dict_get_3 _ _ _) (meets_dict_get_default (intKind B.prog B.w) s.heap.objs.size (intKind_is _ _ i t) hne w) ⟨valueAt l, hd2.mapOf, ?_⟩
  exact hQ _ G2 h2 _ (s1.trans s2) I2 (P.step (s1.trans s2)) (valueAt_ints i w d rd hkv (s2.repL rv))
theorem set_comm' {F : AF} {i j : Nat} {x y : Option AV} (h : i ≠ j) : (F.set i x).set j y = (F.set j y).set i x := List.set_comm _ _ h
theorem asets_cons : ∀ (is : List Nat) (xs : List AV) (F : AF) (i : Nat) (x : AV), i ∉ is → asets is xs (F.set i (some x)) = (asets is xs F).set i (some x)
  | [], xs, F, i, x, _ => by unfold asets; rfl
  | j :: is, [], F, i, x, _ => by unfold asets; rfl
  | j :: is, y :: xs, F, i, x, h => by
    rw [List.mem_cons, not_or] at h
    show asets is xs ((F.set i (some x)).set j (some y)) = (asets is xs (F.set j (some y))).set i (some x)
    rw [set_comm' h.1]
    exact asets_cons is xs _ i x h.2
noncomputable def Ord (M : Model) (A : Around) (E : Value → Shared → Prop) : List (Value → Sem Unit) → List Value → (Unit → Shared → Prop) → Shared → Prop
  | [], [], Q, s => Q () s
  | t :: ts, x :: xs, Q, s => wpAny M A (t x) (fun q_ s' => Ord M A E ts xs Q s') E s
  | _, _, _, _ => False
theorem Ord.run {M : Model} {E : Value → Shared → Prop} : ∀ {ts : List (Value → Sem Unit)} {xs : List Value} {Q : Unit → Shared → Prop} {s : Shared}, Ord M A E ts xs Q s → wpAny M A (assignInOrder ts xs) Q E s
  | [], [], Q, s, h => wpAny_pure h
  | [], _ :: _, _, _, h => h.elim
  | _ :: _, [], _, _, h => h.elim
  | t :: ts, x :: xs, Q, s, h => by
    show wpAny M A (do holding xs (t x); assignInOrder ts xs) Q E s
    exact wpAny_bind (wpAny_holding (wpAny_mono h (fun q_ q_ q => Ord.run q) fun q_ q_ e => e))
theorem Ord.snoc {M : Model} {E : Value → Shared → Prop} {b : Value → Sem Unit} {x : Value} : ∀ {ts : List (Value → Sem Unit)} {xs : List Value} {Q : Unit → Shared → Prop} {s : Shared}, Ord M A E ts xs (fun q_ s' => wpAny M A (b x) Q E s') s → Ord M A E (ts ++ [b]) (xs ++ [x]) Q s
  | [], [], Q, s, h => wpAny_mono h (fun q_ q_ q => q) fun q_ q_ e => e
  | [], _ :: _, _, _, h => h.elim
  | _ :: _, [], _, _, h => h.elim
  | t :: ts, y :: xs, Q, s, h => wpAny_mono h (fun q_ q_ q => Ord.snoc q) fun q_ q_ e => e
theorem mNs_nil {ts : List Expr} (h : mNs sc ns [] ts = true) : ts = [] := on0_i h
theorem mNs_cons {i : Nat} {is : List Nat} {ts : List Expr} (h : mNs sc ns (i :: is) ts = true) : ∃ x p r n, ts = .Name x p :: r ∧ ns[i]? = some n ∧ isS n x = true ∧ isKind sc x .local = true ∧ mNs sc ns is r = true := by
  refine onC_e (f := _) h fun x r h => ?_
  have h := (Bool.and_eq_true _ _).mp h
  refine onName_e h.1 fun y p h1 => ?_
  have h1 := (Bool.and_eq_true _ _).mp h1
  obtain ⟨n, hn, hx⟩ := isNm_i h1.1
  exact ⟨y, p, r, n, rfl, hn, hx, h1.2, h.2⟩
theorem stores_rev : ∀ (is : List Nat) (ts : List Expr) (xs : List AV) (vs : List Value) (F : AF) (s : Shared) (G : St) (H : AH) (Q : Unit → Shared → Prop) (E : Value → Shared → Prop), mNs sc ns is ts = true → is.Nodup → FrOK B T sc ns env F G s.heap → Inv B G H s.heap → RepL B G xs vs → xs.length = is.length →
    (∀ G' h' tk', Step B (Own sc env) G s.heap G' h' → Inv B G' H h' → FrOK B T sc ns env (asets is xs F) G' h' → Q () { s with heap := h', toks := tk' }) →
    ∃ names : List Str, ts.filterMap (fun t => match t with | .Name id _ => some id | _ => none) = names ∧ names.length = ts.length ∧ ts.length = is.length ∧ names.map (·.cps.toList) = is.map (fun i => (ns[i]?).getD []) ∧ (∀ x ∈ names, isKind sc x .local = true) ∧
      Ord (model B.prog B.w) A E ((names.map fun n => bindName env n).reverse) vs.reverse Q s := fun is => by
  induction is with
  | nil =>
    intro ts xs vs F s G H Q E hm nd P I rs hl hQ
    have hm := mNs_nil hm
    subst hm
    cases xs with
    | nil =>
      rw [show vs = [] from rs]
      exact ⟨[], rfl, rfl, rfl, rfl, fun q_ h => (List.not_mem_nil h).elim, hQ G s.heap s.toks (Step.refl ..) I P⟩
    | cons _ _ => cases hl
  | cons i is ih =>
    intro ts xs vs F s G H Q E hm nd P I rs hl hQ
    obtain ⟨x, p, r, n, rfl, hni, hn, hk, hr⟩ := mNs_cons hm
    rw [List.nodup_cons] at nd
    cases xs with
    | nil => cases hl
    | cons y ys =>
      obtain ⟨v, vr, rfl, ry, rr⟩ := rs
      have hx := isS_eq hn
      subst hx
      obtain ⟨names, a1, a2, a3, a4, a5, a6⟩ := ih r ys vr F s G H (fun q_ s' => wpAny (model B.prog B.w) A (bindName env (toS n) v) Q E s') E hr nd.2 P I rr (by simpa using hl) fun G1 h1 t1 s1 I1 P1 => by
        refine wpAny_bindName ?_
        have hk' : isKind sc (toS n) (if false = true then .cell else .local) = true := hk
        exact store_name (s := { s with heap := h1, toks := t1 }) (c := false) P1 I1 hni hk' (fun h => nomatch h) (s1.rep ry) fun G2 h2 t2 s2 I2 P2 => hQ G2 h2 t2 (s1.trans s2) I2 (by
          show FrOK B T sc ns env (asets is ys (F.set i (some y))) G2 h2
          rw [asets_cons is ys F i y nd.1]; exact P2)
      refine ⟨toS n :: names, ?_, ?_, ?_, ?_, ?_, ?_⟩
      · rw [List.filterMap_cons]; simp [a1]
      · simp [a2]
      · simp [a3]
      · rw [List.map_cons, List.map_cons, a4, hni]
        simp [toS]
      · intro z hz
        rcases List.mem_cons.mp hz with rfl | hz
        · exact hk
        · exact a5 z hz
      · rw [List.map_cons, List.reverse_cons, List.reverse_cons]
        exact a6.snoc
theorem dups2 {a b : Str} (h : [a, b].Nodup) : ([a, b].eraseDups.length != [a, b].length) = false := by
  have : a ≠ b := by simpa using h
  have hb : (b == a) = false := by rw [beq_eq_false_iff_ne]; exact fun q => this q.symm
  simp [List.eraseDups, List.eraseDupsBy, List.eraseDupsBy.loop, hb]
theorem dups3 {a b c : Str} (h : [a, b, c].Nodup) : ([a, b, c].eraseDups.length != [a, b, c].length) = false := by
  simp only [List.nodup_cons, List.mem_cons, List.not_mem_nil, or_false, not_or] at h
  obtain ⟨⟨h1, h2⟩, h3, _⟩ := h
  have hb : (b == a) = false := by rw [beq_eq_false_iff_ne]; exact fun q => h1 q.symm
  have hc : (c == a) = false := by rw [beq_eq_false_iff_ne]; exact fun q => h2 q.symm
  have hd : (c == b) = false := by rw [beq_eq_false_iff_ne]; exact fun q => h3 q.symm
  simp [List.eraseDups, List.eraseDupsBy, List.eraseDupsBy.loop, hb, hc, hd]
theorem names_line {line : Nat} : ∀ {ts : List Expr} {names : List Str}, ts.filterMap (fun t => match t with | .Name id _ => some id | _ => none) = names → names.length = ts.length → (∀ t ∈ ts, (t.pos.line == line) = true) → (∀ x ∈ names, env.kindOf x = some .local) →
    ts.filterMap (fun t => match t with
      | .Name id pos => if env.kindOf id == some .local && pos.line == line then some id else none
      | _ => none) = names
  | [], names, h, _, _, _ => h
  | t :: ts, names, h, hl, hln, hk => by
    rw [List.filterMap_cons] at h
    have sub : (ts.filterMap (fun t => match t with | .Name id _ => some id | _ => none)).length ≤ ts.length := List.length_filterMap_le _ _
    cases t with
    | Name id pos =>
      dsimp only at h
      subst h
      rw [List.filterMap_cons]
      have h1 := hk id List.mem_cons_self
      have h2 := hln _ List.mem_cons_self
      have h2' : (pos.line == line) = true := h2
      simp only [h1, h2', beq_self_eq_true, Bool.and_self, if_true]
      rw [names_line rfl (by simpa using hl) (fun t ht => hln t (List.mem_cons_of_mem _ ht)) fun x hx => hk x (List.mem_cons_of_mem _ hx)]
    | _ =>
      dsimp only at h
      rw [h] at sub
      rw [List.length_cons] at hl
      omega
theorem swapped_names {ts vs : List Expr} {k1 k2 : Nat} {p1 p2 : Pos} {names : List Str} (h2 : (ts.length == 2 || ts.length == 3) = true) (hvl : vs.length = ts.length) (hk : env.scope.kind = .function) (hst : (vs.all fun e => !isStar e) = true)
    (hln : ∀ t ∈ ts, (t.pos.line == (ts.head?.map (·.pos.line)).getD 0) = true) (hn : ts.filterMap (fun t => match t with | .Name id _ => some id | _ => none) = names) (hnl : names.length = ts.length) (hloc : ∀ x ∈ names, env.kindOf x = some .local) (nd : names.Nodup)
    (f1 : vs.all (foldedForSure 8) = false) (f2 : vs.all (constantsAlone 8) = false) : swappedStores [.Tuple ts k1 p1] (.Tuple vs k2 p2) env = pure (some names) := by
  have c1 : (!(ts.length == 2 || ts.length == 3) || vs.length != ts.length || env.blockKind != .function) = false := by
    have : env.blockKind = .function := by unfold Env.blockKind; rw [hk]; rfl
    rw [h2, hvl, this]; simp
  have c2 : (vs.any fun | .Starred .. => true | _ => false) = false := by
    rw [List.any_eq_false]
    intro x hx
    rw [List.all_eq_true] at hst
    have := hst x hx
    cases x <;> first | exact bad this | exact fun q => Bool.noConfusion q
  have c3 := names_line (env := env) hn hnl hln hloc
  have c4 : (names.length != ts.length || names.eraseDups.length != names.length) = false := by
    rw [hnl]
    have : (names.eraseDups.length != names.length) = false := by
      simp only [Bool.or_eq_true, beq_iff_eq] at h2
      match names, nd, hnl with
      | [a, b], nd, _ => exact dups2 nd
      | [a, b, c], nd, _ => exact dups3 nd
      | [], _, e => simp at e; omega
      | [a], _, e => simp at e; omega
      | _ :: _ :: _ :: _ :: _, _, e => simp at e; omega
    rw [hnl] at this
    simp [this]
  have key : swappedStores [.Tuple ts k1 p1] (.Tuple vs k2 p2) env = (if (!(ts.length == 2 || ts.length == 3) || vs.length != ts.length || env.blockKind != .function) = true then pure none else
      if (vs.any fun | .Starred .. => true | _ => false) = true then pure none else
      if ((ts.filterMap (fun t => match t with
        | .Name id pos => if env.kindOf id == some .local && pos.line == (ts.head?.map (·.pos.line)).getD 0 then some id else none
        | _ => none)).length != ts.length || (ts.filterMap (fun t => match t with
        | .Name id pos => if env.kindOf id == some .local && pos.line == (ts.head?.map (·.pos.line)).getD 0 then some id else none
        | _ => none)).eraseDups.length != (ts.filterMap (fun t => match t with
        | .Name id pos => if env.kindOf id == some .local && pos.line == (ts.head?.map (·.pos.line)).getD 0 then some id else none
        | _ => none)).length) = true then pure none else
      if (vs.all (foldedForSure 8)) = true then pure none else
      if (vs.all (constantsAlone 8)) = true then (do let _ ← (unsupported "assign.tuple-of-constant-expressions:order-of-the-stores" : Sem PUnit); return some (ts.filterMap (fun t => match t with
        | .Name id pos => if env.kindOf id == some .local && pos.line == (ts.head?.map (·.pos.line)).getD 0 then some id else none
        | _ => none))) else pure (some (ts.filterMap (fun t => match t with
        | .Name id pos => if env.kindOf id == some .local && pos.line == (ts.head?.map (·.pos.line)).getD 0 then some id else none
        | _ => none)))) := by
    unfold swappedStores
    dsimp only
    rfl
  rw [key, c3]
  simp only [c1, c2, c4, f1, f2, Bool.false_eq_true, if_false]
theorem names_of (hnod : ns.Nodup) : ∀ (is : List Nat) (ts : List Expr), mNs sc ns is ts = true → is.Nodup →
    ∃ names : List Str, ts.filterMap (fun t => match t with | .Name id _ => some id | _ => none) = names ∧ names.length = ts.length ∧ ts.length = is.length ∧ (∀ x ∈ names, isKind sc x .local = true ∧ ∃ j ∈ is, ∃ n, ns[j]? = some n ∧ x = toS n) ∧ names.Nodup := fun is => by
  induction is with
  | nil =>
    intro ts hm nd
    have hm := mNs_nil hm
    subst hm
    exact ⟨[], rfl, rfl, rfl, fun q_ h => (List.not_mem_nil h).elim, List.nodup_nil⟩
  | cons i is ih =>
    intro ts hm nd
    obtain ⟨x, p, r, n, rfl, hni, hn, hk, hr⟩ := mNs_cons hm
    rw [List.nodup_cons] at nd
    have hx := isS_eq hn
    subst hx
    refine via fun R_ k_ => ?_
    obtain ⟨names, a1, a2, a3, a4, a5⟩ := ih r hr nd.2
    refine k_ ?_
    refine ⟨toS n :: names, ?_, by simp [a2], by simp [a3], fun z hz => ?_, ?_⟩
    · rw [List.filterMap_cons]; simp [a1]
    · rcases List.mem_cons.mp hz with rfl | hz
      · exact ⟨hk, i, List.mem_cons_self, n, hni, rfl⟩
      · obtain ⟨c1, j, c2, c3⟩ := a4 z hz
        exact ⟨c1, j, List.mem_cons_of_mem _ c2, c3⟩
    · rw [List.nodup_cons]
      refine ⟨fun hmem => ?_, a5⟩
      refine via fun R_ k_ => ?_
      obtain ⟨_, j, c2, n', c3, c4⟩ := a4 _ hmem
      refine k_ ?_
      rw [toS_inj] at c4; subst c4
      exact nd.1 (nodup_at hnod hni c3 ▸ c2)
theorem ex_swap (hA : A.handled = none) {is : List Nat} {ts vs : List Expr} {k1 k2 : Nat} {p1 p2 p : Pos} {ms : AF → AM (List AV)} (hm : mNs sc ns is ts = true) (nd : is.Nodup) (h2 : (ts.length == 2 || ts.length == 3) = true) (hvl : vs.length = ts.length) (hst : (vs.all fun e => !isStar e) = true)
    (hln : ∀ t ∈ ts, (t.pos.line == (ts.head?.map (·.pos.line)).getD 0) = true) (f1 : vs.all (foldedForSure 8) = false) (f2 : vs.all (constantsAlone 8) = false) (hl : ∀ F, EvL B A T sc ns env F p2 vs (ms F)) (hlt : ∀ F H xs H', ms F H = some (xs, H') → xs.length ≤ 1000) :
    ExS B A T sc ns env (exec (.Assign [.Tuple ts k1 p1] (.Tuple vs k2 p2) p) env) (fun F => abind (ms F) fun xs => abind (aopt (aif (xs.length = is.length ∧ is.all (fun i => decide (i < F.length)) = true) ())) fun q_ => apure (.next, asets is xs F)) := fun F s G H fl F' H' P I eq Q E hQ => by
  obtain ⟨xs, H1, e1, eq1⟩ := abind_some eq
  clear eq
  obtain ⟨hc, eq1⟩ := abind_aif eq1
  · obtain ⟨e2, rfl⟩ := apure_some eq1
    cases e2
    have hlen : ∀ {vs' : List Value} {G' : St}, RepL B G' xs vs' → vs'.length = is.length := fun r => by rw [r.len, hc.1]
    refine via fun R_ k_ => ?_
    obtain ⟨names, a1, a2, a3, a4, ndn⟩ := names_of P.nod is ts hm nd
    refine k_ ?_
    refine Assign_Tuple_swapped (names := names) (ev_tup (hl F) (hlt F) s G H (.tup xs) H' P I (by rw [abind_eq e1]; rfl) _ _ fun v G1 h1 t1 s1 I1 P1 r1 => ?_) rfl (swapped_names h2 hvl P.kind hst hln a1 a2 (fun x hx => P.kl x (a4 x hx).1) ndn f1 f2)
    · obtain ⟨b, us, rfl, hb, ra⟩ := isTup (s := { s with heap := h1, toks := t1 }) I1 r1
      have hsz : names.length = us.size := by
        rw [size_of ra, hc.1, a2, a3]
      rw [hsz]
      refine unpackItems_tuple hA hb fun h2' ke => ?_
      have k : ∀ b o, h1.get? b = some o → h2'.get? b = some o := fun b o e => ke b o (ne_end (s := { s with heap := h1, toks := t1 }) e) e
      have st : Step B Pure G1 h1 G1 h2' := Step.priv k
      obtain ⟨names', b1, b2, b3, b4, b5, b6⟩ := stores_rev is ts xs us.toList F { s with heap := h2', toks := t1 } G1 H' (fun q_ => Q .next) E hm nd (P1.step st) (I1.keeps fun b o q_ e => k b o e) ra hc.1 fun G3 h3 t3 s3 I3 P3 => hQ _ G3 h3 t3 (s1.pure.trans (st.pure.trans s3)) I3 P3 trivial
      have en : names' = names := by rw [← b1, ← a1]
      subst en
      rw [List.map_reverse]
      exact b6.run
end
end
section
set_option Elab.async false
set_option autoImplicit false
set_option linter.unusedVariables false
set_option maxRecDepth 100000
set_option tactic.hygienic false
set_option genSizeOf false
set_option genInjectivity false
open PySem PySem.W PyProof.Rows PySem.Calls
section
variable {prog : Program} {w : World} {A : Around} {E : Value → Shared → Prop} {s : Shared} {env : Env}
theorem keeper_cls {C : Addr} {cr : CR} {bm ab newId} (hC : s.heap.get? C = some (cr.obj C bm ab newId)) {Q : Keeper → Shared → Prop} (h : Q .machine s) :
    wpAny (model prog w) A (keeperOf (.ref C)) Q E s := by
  refine via fun R_ k_ => ?_
  obtain ⟨hh, g, d, tt, os⟩ := s
  refine k_ ?_
  have f1 := tc_lookup
  have hT : (⟨hh, g, d, tt, os⟩ : Shared).TypeIs (.ref C) "type" := ⟨_, hC, rfl⟩
  unfold keeperOf specialOf
  repeat (any_goals (first | assumption | with_reducible refine wpAny_loadPart_at hC ?_ | with_reducible refine wpAny_load' hC ?_ | wp_step))
set_option tactic.hygienic true in
theorem callWith_kw1 {pos : Pos} {f : Value} {k : Str} {t : Sem Value} {Q : Value → Shared → Prop}
    (h : wpAny (model prog w) A t (fun v s₁ => Callee s₁.heap f ∧ wpAny (model prog w) A (call f [] [(k, v)]) Q E s₁) E s) :
    wpAny (model prog w) A (callWith pos f [] [] [(some k, t)]) Q E s := by
  have tail : ∀ {t : Sem Value} {s₁ : Shared}, wpAny (model prog w) A t Q E s₁ → wpAny (model prog w) A (t >>= fun r => holding [r] point >>= fun q_ => pure r) Q E s₁ :=
    fun ht => wpAny_bind (wpAny_mono ht (fun r s₂ hr => wpAny_bind (wpAny_holding (wpAny_point (wpAny_pure hr)))) fun q_ q_ x => x)
  unfold callWith
  refine wpAny_bind (wpAny_holding (evalArgs_kw_nil rfl ?_))
  show wpAny _ A (evalAll [t]) _ E s
  refine wpAny_evalAll_cons (wpAny_mono h (fun v s₁ h₁ => wpAny_evalAll_nil (wpAny_bind (wpAny_standAt ?_))) fun q_ q_ x => x)
  obtain ⟨hc, hcall⟩ := h₁
  cases hc with
  | builtin id => exact wpAny_bind (wpAny_pure (tail hcall))
  | type T => exact wpAny_bind (wpAny_pure (tail hcall))
  | func ho hd =>
    rename_i a o fd
    refine wpAny_bind (m := keeperOf (.ref a)) ?_
    unfold keeperOf
    refine wpAny_bind (wpAny_load ho ?_)
    rw [hd]
    refine wpAny_pure ?_
    exact tail (by unfold callMarked; exact wpAny_keep hcall)
  | cls hC =>
    refine wpAny_bind (keeper_cls hC ?_)
    exact tail hcall
end
section
variable {B : Base} {A : Around} {T : Tabs} {sc : Scope} {ns : List (List Nat)} {env : Env} {F : AF} {call' : AV → List AV → AM AV}
theorem ev_callk (C : CallOK B A call') {g e : Expr} {k : Str} {kp p : Pos} {mf me : AM AV} (hg : isName g = true) (hk : isS [115, 116, 101, 112, 115] k = true)
    (hf : EvE B A T sc ns env F g mf) (he : EvE B A T sc ns env F e me) :
    EvE B A T sc ns env F (.Call g [] [⟨some k, e, kp⟩] p) (abind mf fun x => abind me fun y => if x.isLimits then call' x [y] else afail) := fun s G H z H' P I eq Q E hQ => by
  refine via fun R_ k_ => ?_
  obtain ⟨x, H1, e1, eq1⟩ := abind_some eq
  obtain ⟨y, H2, e2, eq2⟩ := abind_some eq1
  refine k_ ?_
  clear eq eq1
  rw [isS_eq hk]
  obtain ⟨nm, q, rfl, _⟩ := onName_i (f := _) hg
  · refine wpAny_Call_Name_kw (hf s G H x H1 P I e1 _ _ fun v G1 h1 t1 s1 I1 P1 r1 => ?_)
    show wpAny _ A (callWith p v [] [] [(some (toS [115, 116, 101, 112, 115]), do let v ← eval e env; standAt p; pure v)]) Q E _
    refine callWith_kw1 (wpAny_bind (he _ G1 H1 y H2 P1 I1 e2 _ _ fun u G2 h2 t2 s2 I2 P2 r2 => wpAny_bind (wpAny_standAt (wpAny_pure ?_))))
    by_cases hl : x.isLimits = true
    · have e3 : x = .cls .limits := by
        cases x with
        | cls c => cases c with
          | limits => rfl
          | _ => exact bad hl
        | _ => exact bad hl
      subst e3
      obtain ⟨a, b⟩ := C.kw { s with heap := h2, toks := t2 } G2 H2 H' z y v u I2 (s2.rep r1) r2 eq2
      exact ⟨a, b.use P2 (s1.trans s2) fun v G' h' tk' => hQ v G' h' tk'⟩
    · exact nos (α := AV × AH) ((congrFun (if_neg hl) H2).symm.trans eq2)
end
end
section
set_option Elab.async false
set_option autoImplicit false
set_option linter.unusedVariables false
set_option maxRecDepth 100000
set_option backward.match.sparseCases false
set_option tactic.hygienic false
set_option genSizeOf false
set_option genInjectivity false
open PySem PySem.W PyProof.Rows PySem.Calls
theorem and_i {a b : Bool} (h : (a && b) = true) : a = true ∧ b = true := (Bool.and_eq_true _ _).mp h
structure Hyp (B : Base) (A : Around) (call' : AV → List AV → AM AV) : Prop where
  O : BaseOk B
  K : ClassesOk B
  Sr : SrcOk B
  C : CallOK B A call'
  hA : A.handled = none
  hu : A.units + 6 < cLine
noncomputable abbrev Orc := AV → List AV → AM AV
structure XE where
  ev : Glo → Orc → AF → AM AV
  mt : Tabs → Scope → List (List Nat) → Expr → Bool
  ok : ∀ {B A call'}, Hyp B A call' → ∀ {T sc ns x}, mt T sc ns x = true → ∀ env F, EvE B A T sc ns env F x (ev B.Gl call' F) ∧ EvT B A T sc ns env F x (ev B.Gl call' F)
noncomputable def tgOf : Bool → Expr → Prop
  | true => TupTg
  | false => fun q_ => True
structure XI where
  sr : Glo → Orc → AF → AM (List AV)
  pr : Bool
  mt : Tabs → Scope → List (List Nat) → Expr → Bool
  ok : ∀ {B A call'}, Hyp B A call' → ∀ {T sc ns x}, mt T sc ns x = true → ∀ env F, EvI B A T sc ns env F (tgOf pr) x (sr B.Gl call' F)
structure XT where
  st : Glo → Orc → AV → AF → AM AF
  mt : Tabs → Scope → List (List Nat) → Expr → Bool
  ok : ∀ {B A call'}, Hyp B A call' → ∀ {T sc ns x}, mt T sc ns x = true → ∀ env, AsT B A T sc ns env x (st B.Gl call')
structure XS where
  ex : Glo → Orc → Nat → AF → AM (Flo × AF)
  mt : Tabs → Scope → List (List Nat) → Stmt → Bool
  ok : ∀ {B A call'}, Hyp B A call' → ∀ W {T sc ns x}, mt T sc ns x = true → ∀ env, env.scope.kind = .function → ExS B A T sc ns env (exec x env) (ex B.Gl call' W)
section
variable (G : Glo) (call : Orc) (F : AF)
noncomputable def evs (es : List XE) : AM (List AV) := @List.rec XE (fun q_ => AM (List AV)) (apure []) (fun e q_ ih => abind (e.ev G call F) fun x => abind ih fun xs => apure (x :: xs)) es
noncomputable def ands (es : List XE) : AM AV := @List.rec XE (fun q_ => AM AV) (apure (.bool true)) (fun e q_ ih => abind (e.ev G call F) fun v => abind (aopt (truthA v)) fun t => if t then ih else apure (.bool false)) es
noncomputable def ors (es : List XE) : AM AV := @List.rec XE (fun q_ => AM AV) (apure (.bool false)) (fun e q_ ih => abind (e.ev G call F) fun v => abind (aopt (truthA v)) fun t => if t then apure (.bool true) else ih) es
end
noncomputable def mEs (T : Tabs) (sc : Scope) (ns : List (List Nat)) : List XE → List Expr → Bool
  | [] => on0
  | e :: r => onC fun x xs => !isStar x && e.mt T sc ns x && mEs T sc ns r xs
section
variable {B : Base} {A : Around} {T : Tabs} {sc : Scope} {ns : List (List Nat)} {env : Env} {F : AF}
inductive PairE (B : Base) (A : Around) (T : Tabs) (sc : Scope) (ns : List (List Nat)) (env : Env) (call' : AV → List AV → AM AV) (F : AF) : List XE → List Expr → Prop
  | nil : PairE B A T sc ns env call' F [] []
  | cons {e : XE} {r : List XE} {x : Expr} {xs : List Expr} : isStar x = false → EvE B A T sc ns env F x (e.ev B.Gl call' F) ∧ EvT B A T sc ns env F x (e.ev B.Gl call' F) → PairE B A T sc ns env call' F r xs → PairE B A T sc ns env call' F (e :: r) (x :: xs)
variable {call' : AV → List AV → AM AV}
theorem pairE (y : Hyp B A call') (env : Env) (F : AF) : ∀ {es : List XE} {xs : List Expr}, mEs T sc ns es xs = true → PairE B A T sc ns env call' F es xs
  | [], xs, h => by
    have h := on0_i (show on0 xs = true from h)
    subst h
    exact .nil
  | e :: r, xs, h => by
    refine onC_e (f := _) h fun x xs h => ?_
    have h := and_i h
    have g := and_i h.1
    exact .cons (not_i g.1) (e.ok y g.2 env F) (pairE y env F h.2)
theorem PairE.noStar {es : List XE} {xs : List Expr} (h : PairE B A T sc ns env call' F es xs) : (xs.all fun e => !isStar e) = true := by
  induction h with
  | nil => rfl
  | cons h1 _ _ ih => rw [List.all_cons, h1, ih]; rfl
theorem PairE.evL {es : List XE} {xs : List Expr} {p : Pos} (h : PairE B A T sc ns env call' F es xs) : EvL B A T sc ns env F p xs (evs B.Gl call' F es) := by
  induction h with
  | nil => exact evl_nil
  | cons h1 h2 _ ih => exact evl_cons h1 h2.1 ih
theorem PairE.len {es : List XE} {xs : List Expr} (h : PairE B A T sc ns env call' F es xs) : ∀ H ys H', evs B.Gl call' F es H = some (ys, H') → ys.length = xs.length := by
  induction h with
  | nil => intro H ys H' e; obtain ⟨rfl, _⟩ := apure_some (show apure [] H = some (ys, H') from e); rfl
  | cons h1 h2 _ ih =>
    intro H ys H' e
    obtain ⟨y, H1, e1, e2⟩ := abind_some (show abind (XE.ev _ B.Gl call' F) (fun x => abind (evs B.Gl call' F _) fun xs => apure (x :: xs)) H = some (ys, H') from e)
    obtain ⟨zs, H2, e3, e4⟩ := abind_some e2
    obtain ⟨rfl, rfl⟩ := apure_some e4
    rw [List.length_cons, List.length_cons, ih _ _ _ e3]
theorem PairE.nilA {es : List XE} (h : PairE B A T sc ns env call' F es []) : ands B.Gl call' F es = apure (.bool true) ∧ ors B.Gl call' F es = apure (.bool false) := by
  cases h; exact ⟨rfl, rfl⟩
theorem PairE.evA {es : List XE} {xs : List Expr} {p : Pos} (h : PairE B A T sc ns env call' F es xs) : EvB B A T sc ns env F p .And xs (ands B.Gl call' F es) := by
  induction h with
  | nil => exact evB_nilA
  | cons h1 h2 h3 ih => exact evB_consA h2 ih (fun e => by subst e; exact h3.nilA.1) rfl
theorem PairE.evO {es : List XE} {xs : List Expr} {p : Pos} (h : PairE B A T sc ns env call' F es xs) : EvB B A T sc ns env F p .Or xs (ors B.Gl call' F es) := by
  induction h with
  | nil => exact evB_nilO
  | cons h1 h2 h3 ih => exact evB_consO h2 ih (fun e => by subst e; exact h3.nilA.2) rfl
theorem PairE.evTs {es : List XE} {xs : List Expr} (h : PairE B A T sc ns env call' F es xs) : EvTs B A T sc ns env F xs (ands B.Gl call' F es) := by
  induction h with
  | nil => exact evTs_nil
  | cons h1 h2 _ ih => exact evTs_cons h2.2 ih
theorem mKs_cons {k : List Nat} {ks : List (List Nat)} {kes : List (Option Expr)} (h : mKs (k :: ks) kes = true) : ∃ x c p r, kes = some (.Constant (.str x) c p) :: r ∧ isS k x = true ∧ mKs ks r = true := by
  refine onC_e (f := _) h fun o r h => ?_
  have h := (Bool.and_eq_true _ _).mp h
  refine onS_e h.1 fun x h1 => ?_
  refine onConstant_e h1 fun c k1 p1 h1 => ?_
  refine coStr_e h1 fun y h1 => ?_
  exact ⟨y, k1, p1, r, rfl, h1, h.2⟩
theorem PairE.evD {es : List XE} {xs : List Expr} {p : Pos} (h : PairE B A T sc ns env call' F es xs) : ∀ {ks : List (List Nat)} {kes : List (Option Expr)}, mKs ks kes = true → ks.length = xs.length → EvD B A T sc ns env F (strKind B.prog B.w) (ks.map toS) p kes xs (evs B.Gl call' F es) ∧ kes.all (·.isSome) = true ∧ ks.length = kes.length := by
  induction h with
  | nil =>
    intro ks kes hk hl
    cases ks with
    | nil =>
      have hk := on0_i (show on0 kes = true from hk)
      subst hk
      exact ⟨evD_nil, rfl, rfl⟩
    | cons _ _ => cases hl
  | cons h1 h2 _ ih =>
    intro ks kes hk hl
    cases ks with
    | nil => cases hl
    | cons k ks =>
      obtain ⟨x, c, p, r, rfl, h1, h3⟩ := mKs_cons hk
      obtain ⟨a, b, c⟩ := ih h3 (by simpa using hl)
      exact ⟨evD_cons (fun s Q E hQ => evD_str h1 s Q E hQ) h2.1 a, by simpa using b, by simp [c]⟩
theorem valE {x : Expr} {m : AM AV} (h : EvE B A T sc ns env F x m) (he : isTrue x env (eval x env) = (do let v ← eval x env; standAt x.pos; holding [v] (truthy v))) : EvE B A T sc ns env F x m ∧ EvT B A T sc ns env F x m := ⟨h, evT_value h he⟩
theorem ev_boolop {op : BoolOp} {xs : List Expr} {p : Pos} {m : AM AV} (h : EvB B A T sc ns env F p op xs m) (hne : xs ≠ []) : EvE B A T sc ns env F (.BoolOp op xs p) m ∧ EvT B A T sc ns env F (.BoolOp op xs p) m :=
  ⟨fun s G H x H' P I e Q E hQ => h.1 hne s G H x H' P I e Q E hQ, fun s G H x H' P I e Q E hQ => by
    have := h.2 s G H x H' P I e Q E hQ
    exact this⟩
end
noncomputable def n_none : XE := ⟨fun q_ q_ q_ => apure .none, fun q_ q_ q_ => onConstant fun c q_ q_ => coNone true c, fun y T sc ns x h env F => by
    obtain ⟨c, k, p, rfl, h⟩ := onConstant_i (f := _) h
    obtain ⟨rfl, _⟩ := coNone_i h
    exact valE ev_none rfl⟩
noncomputable def n_bool (b : Bool) : XE := ⟨fun q_ q_ q_ => apure (.bool b), fun q_ q_ q_ => onConstant fun c q_ q_ => coBool (fun d => b == d) c, fun y T sc ns x h env F => by
    obtain ⟨c, k, p, rfl, h⟩ := onConstant_i (f := _) h
    refine coBool_e h fun d h => ?_
    have h := eq_of_beq h
    subst h
    exact valE ev_bool rfl⟩
noncomputable def n_int (i : Int) : XE := ⟨fun q_ q_ q_ => apure (.int i), fun q_ q_ q_ => onConstant fun c q_ q_ => coInt (fun d => decide (i = d)) c, fun y T sc ns x h env F => by
    obtain ⟨c, k, p, rfl, h⟩ := onConstant_i (f := _) h
    refine coInt_e h fun d h => ?_
    have h := of_decide_eq_true h; subst h
    exact valE ev_int rfl⟩
noncomputable def n_str (s : List Nat) : XE := ⟨fun q_ q_ q_ => apure (.str s), fun q_ q_ q_ => onConstant fun c q_ q_ => coStr (isS s) c && decide (s.length ≤ line), fun y T sc ns x h env F => by
    obtain ⟨c, k, p, rfl, h⟩ := onConstant_i (f := _) h
    refine coStr_e (and_i h).1 fun d hh => ?_
    exact valE (ev_str hh) rfl⟩
noncomputable def n_var (i : Nat) : XE := ⟨fun q_ q_ F => aopt (nth F i), fun T sc ns => onName fun x q_ => isNm ns i x && inFrame sc x && x != ("__debug__" : Str) && x != ("__classdict__" : Str), fun y T sc ns x h env F => by
    obtain ⟨id, p, rfl, h⟩ := onName_i (f := _) h
    have h := and_i h
    have g := and_i h.1
    have k := and_i g.1
    obtain ⟨n, hn, hx⟩ := isNm_i k.1
    rw [nth_eq]
    exact valE (ev_var hn hx k.2 (not_i g.2) (not_i h.2)) rfl⟩
noncomputable def n_gl (k : Nat) : XE := ⟨fun G q_ q_ => aopt (G.val k), fun T sc ns => onName fun x q_ => isNm T.gnames k x && isKind sc x .globalImplicit && x != ("__debug__" : Str), fun y T sc ns x h env F => by
    obtain ⟨id, p, rfl, h⟩ := onName_i (f := _) h
    have h := and_i h
    have g := and_i h.1
    obtain ⟨n, hn, hx⟩ := isNm_i g.1
    exact valE (ev_gl y.O hn hx g.2 (not_i h.2)) rfl⟩
noncomputable def n_tup (es : List XE) : XE := ⟨fun G call F => abind (evs G call F es) fun xs => apure (.tup xs), fun T sc ns => onTuple fun xs q_ q_ => mEs T sc ns es xs && decide (xs.length ≤ 100), fun y T sc ns x h env F => by
    obtain ⟨xs, k, p, rfl, h⟩ := onTuple_i (f := _) h
    have h := and_i h
    have hl := of_decide_eq_true h.2
    have p := pairE y env F h.1
    exact valE (ev_tup p.evL fun H xs H' e => Nat.le_trans (Nat.le_of_eq (p.len _ _ _ e)) (Nat.le_trans hl (by decide))) rfl⟩
noncomputable def n_lst (mu : Bool) (es : List XE) : XE := ⟨fun G call F => abind (evs G call F es) fun xs => amk mu xs, fun T sc ns => onList fun xs q_ => mEs T sc ns es xs && decide (xs.length ≤ 100), fun y T sc ns x h env F => by
    obtain ⟨xs, p, rfl, h⟩ := onList_i (f := _) h
    have h := and_i h
    have hl := of_decide_eq_true h.2
    have p := pairE y env F h.1
    exact valE (ev_lst p.evL fun H xs H' e => Nat.le_trans (Nat.le_of_eq (p.len _ _ _ e)) (Nat.le_trans hl (by decide))) rfl⟩
noncomputable def n_neg (a : XE) : XE := ⟨fun G call F => abind (a.ev G call F) fun v => abind (aopt (toInt v)) fun i => apure (.int (-i)), fun T sc ns => onUnaryOp fun o x q_ => decide (o = .USub) && a.mt T sc ns x, fun y T sc ns x h env F => by
    obtain ⟨o, x, p, rfl, h⟩ := onUnaryOp_i (f := _) h
    have h := and_i h
    have e := of_decide_eq_true h.1
    subst e
    exact valE (ev_neg (a.ok y h.2 env F).1) rfl⟩
noncomputable def n_not (a : XE) : XE := ⟨fun G call F => abind (a.ev G call F) fun v => abind (aopt (truthA v)) fun b => apure (.bool (!b)), fun T sc ns => onUnaryOp fun o x q_ => decide (o = .Not) && a.mt T sc ns x, fun y T sc ns x h env F => by
    obtain ⟨o, x, p, rfl, h⟩ := onUnaryOp_i (f := _) h
    have h := and_i h
    have e := of_decide_eq_true h.1
    subst e
    have ih := a.ok y h.2 env F
    exact ev_not ih.1 ih.2 rfl⟩
noncomputable def n_bin (o : Op2) (a b : XE) : XE := ⟨fun G call F => abind (a.ev G call F) fun x => abind (b.ev G call F) fun y => aopt (abin o x y), fun T sc ns => onBinOp fun l p r q_ => op2 o p && a.mt T sc ns l && b.mt T sc ns r, fun y T sc ns x h env F => by
    obtain ⟨l, q, r, p, rfl, h⟩ := onBinOp_i (f := _) h
    have h := and_i h
    have g := and_i h.1
    have e := op2_eq g.1
    subst e
    exact valE (ev_bin (a.ok y g.2 env F).1 (b.ok y h.2 env F).1) rfl⟩
noncomputable def n_cmp (o : OpC) (a b : XE) : XE := ⟨fun G call F => abind (a.ev G call F) fun x => abind (b.ev G call F) fun y => aopt ((acmp o x y).map .bool),
  fun T sc ns => onCompare fun l ps rs q_ => on1 (fun p => on1 (fun r => opC o p && a.mt T sc ns l && b.mt T sc ns r && !behindInMarks p r) rs) ps, fun y T sc ns x h env F => by
    obtain ⟨l, ps, rs, p, rfl, h⟩ := onCompare_i (f := _) h
    refine on1_e h fun q h => ?_
    refine on1_e h fun r h => ?_
    have h := and_i h
    have g := and_i h.1
    have k := and_i g.1
    have e := opC_eq k.1
    subst e
    exact ev_cmp y.hu (a.ok y k.2 env F).1 (b.ok y g.2 env F).1 (not_i h.2)⟩
noncomputable def n_cmp2 (o p : OpC) (a b c : XE) : XE := ⟨fun G call F => abind (a.ev G call F) fun x => abind (b.ev G call F) fun y => abind (aopt (acmp o x y)) fun t => if t then abind (c.ev G call F) fun z => aopt ((acmp p y z).map .bool) else apure (.bool false),
  fun T sc ns => onCompare fun l ps rs q_ => on2 (fun q r => on2 (fun x y => opC o q && opC p r && !behindInMarks r y && a.mt T sc ns l && b.mt T sc ns x && c.mt T sc ns y) rs) ps, fun y T sc ns x h env F => by
    obtain ⟨l, ps, rs, p, rfl, h⟩ := onCompare_i (f := _) h
    refine on2_e h fun q r h => ?_
    refine on2_e h fun x z h => ?_
    have h := and_i h
    have h6 := h.2
    have h := and_i h.1
    have h5 := h.2
    have h := and_i h.1
    have h4 := h.2
    have h := and_i h.1
    have h3 := not_i h.2
    have h := and_i h.1
    have e := opC_eq h.1
    subst e
    have e := opC_eq h.2
    subst e
    exact ev_cmp2 y.hu (a.ok y h4 env F).1 (b.ok y h5 env F).1 (c.ok y h6 env F).1 h3 rfl⟩
noncomputable def n_and (es : List XE) : XE := ⟨fun G call F => ands G call F es, fun T sc ns => onBoolOp fun o xs q_ => decide (o = .And) && mEs T sc ns es xs && decide (2 ≤ xs.length), fun y T sc ns x h env F => by
    obtain ⟨o, xs, p, rfl, h⟩ := onBoolOp_i (f := _) h
    have h := and_i h
    have g := and_i h.1
    have e := of_decide_eq_true g.1
    subst e
    have hl := of_decide_eq_true h.2
    exact ev_boolop (pairE y env F g.2).evA (fun q => by subst q; exact absurd hl (by decide))⟩
noncomputable def n_or (es : List XE) : XE := ⟨fun G call F => ors G call F es, fun T sc ns => onBoolOp fun o xs q_ => decide (o = .Or) && mEs T sc ns es xs && decide (2 ≤ xs.length), fun y T sc ns x h env F => by
    obtain ⟨o, xs, p, rfl, h⟩ := onBoolOp_i (f := _) h
    have h := and_i h
    have g := and_i h.1
    have e := of_decide_eq_true g.1
    subst e
    have hl := of_decide_eq_true h.2
    exact ev_boolop (pairE y env F g.2).evO (fun q => by subst q; exact absurd hl (by decide))⟩
noncomputable def n_ite (c a b : XE) : XE := ⟨fun G call F => abind (c.ev G call F) fun v => abind (aopt (truthA v)) fun t => if t then a.ev G call F else b.ev G call F, fun T sc ns => onIfExp fun t x y q_ => c.mt T sc ns t && a.mt T sc ns x && b.mt T sc ns y, fun y T sc ns x h env F => by
    obtain ⟨t, u, v, p, rfl, h⟩ := onIfExp_i (f := _) h
    have h := and_i h
    have g := and_i h.1
    exact ev_ite (c.ok y g.1 env F).2 (a.ok y g.2 env F) (b.ok y h.2 env F) rfl⟩
noncomputable def n_sub (a i : XE) : XE := ⟨fun G call F => abind (a.ev G call F) fun x => abind (i.ev G call F) fun y => aread fun H => asub H x y, fun T sc ns => onSubscript fun v s q_ => !isSlice s && a.mt T sc ns v && i.mt T sc ns s, fun y T sc ns x h env F => by
    obtain ⟨v, s, p, rfl, h⟩ := onSubscript_i (f := _) h
    have h := and_i h
    have g := and_i h.1
    exact valE (ev_sub (not_i g.1) (a.ok y g.2 env F).1 (i.ok y h.2 env F).1) rfl⟩
noncomputable def evp (G : Glo) (call : Orc) (F : AF) (o : Option XE) : AM AV := o.rec (apure .none) fun e => e.ev G call F
noncomputable def mP (T : Tabs) (sc : Scope) (ns : List (List Nat)) (o : Option XE) (l : Option Expr) : Bool := l.rec o.isNone fun x => o.rec false fun e => e.mt T sc ns x
noncomputable def mSlc (T : Tabs) (sc : Scope) (ns : List (List Nat)) (a : XE) (lo hi : Option XE) : Expr → Bool := onSubscript fun v s q_ => onSlice (fun l u t q_ => onN t && a.mt T sc ns v && mP T sc ns lo l && mP T sc ns hi u) s
theorem part_i {B : Base} {A : Around} {call' : AV → List AV → AM AV} (y : Hyp B A call') {T : Tabs} {sc : Scope} {ns : List (List Nat)} {o : Option XE} {l : Option Expr} (h : mP T sc ns o l = true) (env : Env) (F : AF) : EvP B A T sc ns env F l (evp B.Gl call' F o) := by
  cases l with
  | none =>
    cases o with
    | none => exact evp_none
    | some e => exact bad h
  | some x =>
    cases o with
    | none => exact bad h
    | some e => exact (e.ok y h env F).1
theorem slc_i {T : Tabs} {sc : Scope} {ns : List (List Nat)} {a : XE} {lo hi : Option XE} {x : Expr} (h : mSlc T sc ns a lo hi x = true) : ∃ v l u p q, x = .Subscript v (.Slice l u none p) q ∧ a.mt T sc ns v = true ∧ mP T sc ns lo l = true ∧ mP T sc ns hi u = true := by
  obtain ⟨v, s, q, rfl, h⟩ := onSubscript_i (f := _) h
  refine onSlice_e h fun l u t p h => ?_
  have h := and_i h
  have g := and_i h.1
  have k := and_i g.1
  have e := onN_i k.1
  subst e
  exact ⟨v, l, u, p, q, rfl, k.2, g.2, h.2⟩
noncomputable def n_slc (a : XE) (lo hi : Option XE) : XE := ⟨fun G call F => abind (a.ev G call F) fun x => abind (evp G call F lo) fun l => abind (evp G call F hi) fun h => aread fun H => aslc H x l h, fun T sc ns => mSlc T sc ns a lo hi, fun y T sc ns x h env F => by
    obtain ⟨v, l, u, p, q, rfl, h1, h2, h3⟩ := slc_i h
    exact valE (ev_slc (a.ok y h1 env F).1 (part_i y h2 env F) (part_i y h3 env F)) rfl⟩
noncomputable def n_slm (a : XE) (lo hi : Option XE) : XE := ⟨fun G call F => abind (a.ev G call F) fun x => abind (evp G call F lo) fun l => abind (evp G call F hi) fun h => abind (aread fun H => aslc H x l h) fun v => abind (aopt (toLst v)) fun xs => anewL xs, fun T sc ns => mSlc T sc ns a lo hi, fun y T sc ns x h env F => by
    obtain ⟨v, l, u, p, q, rfl, h1, h2, h3⟩ := slc_i h
    exact valE (ev_slm (a.ok y h1 env F).1 (part_i y h2 env F) (part_i y h3 env F)) rfl⟩
noncomputable def n_attr (a : XE) (f : Fld) : XE := ⟨fun G call F => abind (a.ev G call F) fun x => agetA x f, fun T sc ns => onAttribute fun v n q_ => decide (n = f.name) && a.mt T sc ns v && isName v, fun y T sc ns x h env F => by
    obtain ⟨v, n, p, rfl, h⟩ := onAttribute_i (f := _) h
    have h := and_i h
    have g := and_i h.1
    have h1 := of_decide_eq_true g.1
    subst h1
    obtain ⟨id, q, rfl, _⟩ := onName_i h.2
    refine valE ?_ rfl
    · intro s G H z H' P I eq Q E hQ
      obtain ⟨w, H1, e1, eq1⟩ := abind_some eq
      refine Attribute_Name_ ((a.ok y g.2 env F).1 s G H w H1 P I e1 _ _ fun v G1 h1 t1 s1 I1 P1 r1 => ?_)
      obtain ⟨q, yy⟩ := op_attr (s := { s with heap := h1, toks := t1 }) (A := _) (ex := true) y.K eq1 I1 r1
      subst q
      exact yy.use P1 s1 fun v G' h' tk' => hQ v G' h' tk'⟩
noncomputable def n_call (f : XE) (args : List XE) : XE := ⟨fun G call F => abind (f.ev G call F) fun x => abind (evs G call F args) fun xs => acallB call x xs, fun T sc ns => onCall fun g xs ks q_ => on0 ks && f.mt T sc ns g && mEs T sc ns args xs && isName g && decide (xs.length ≤ 10), fun y T sc ns x h env F => by
    obtain ⟨g, xs, ks, p, rfl, h⟩ := onCall_i (f := _) h
    have h := and_i (and_i h).1
    have h3 := h.2
    have h := and_i h.1
    have h2 := h.2
    have h := and_i h.1
    have e := on0_i h.1
    subst e
    have p := pairE y env F h2
    exact valE (ev_call y.C y.hA h3 p.noStar (f.ok y h.2 env F).1 p.evL) rfl⟩
noncomputable def n_callk (f e : XE) : XE := ⟨fun G call F => abind (f.ev G call F) fun x => abind (e.ev G call F) fun y => if x.isLimits then call x [y] else afail, fun T sc ns => onCall fun g xs ks q_ => on0 xs && on1 (fun k => onS (isS [115, 116, 101, 112, 115]) k.arg && f.mt T sc ns g && e.mt T sc ns k.value && isName g) ks, fun y T sc ns x h env F => by
    obtain ⟨g, xs, ks, p, rfl, h⟩ := onCall_i (f := _) h
    have h := and_i h
    have e' := on0_i h.1
    subst e'
    obtain ⟨⟨ka, x, kp⟩, rfl, hh⟩ := on1_i h.2
    have h := and_i hh
    have h4 := h.2
    have h := and_i h.1
    have h2 := h.2
    have h := and_i h.1
    obtain ⟨k, e', h3⟩ := onS_i h.1
    change ka = some k at e'
    subst e'
    exact valE (ev_callk y.C h4 h3 (f.ok y h.2 env F).1 (e.ok y h2 env F).1) rfl⟩
noncomputable def n_meth (o : XE) (m : Me) (args : List XE) : XE := ⟨fun G call F => abind (o.ev G call F) fun x => abind (amty m x) fun q_ => abind (evs G call F args) fun xs => ame m x xs,
  fun T sc ns => onCall fun g xs ks pos => on0 ks && onAttribute (fun v n apos => decide (n = m.name) && o.mt T sc ns v && mEs T sc ns args xs && oneLine v apos pos && decide (xs.length ≤ 10) && !isCall v) g, fun y T sc ns x h env F => by
    obtain ⟨g, xs, ks, pos, rfl, h⟩ := onCall_i (f := _) h
    have h := and_i h
    have e := on0_i h.1
    subst e
    refine onAttribute_e h.2 fun v n apos hh => ?_
    have h := and_i hh
    have h6 := h.2
    have h := and_i h.1
    have h5 := of_decide_eq_true h.2
    have h := and_i h.1
    have h4 := h.2
    have h := and_i h.1
    have h3 := h.2
    have h := and_i h.1
    have h1 := of_decide_eq_true h.1
    subst h1
    have p := pairE y env F h3
    exact valE (ev_meth p.noStar h5 (not_i h6) h4 (o.ok y h.2 env F).1 p.evL) rfl⟩
noncomputable def n_own (o : XE) (k : Nat) (args : List XE) : XE := ⟨fun G call F => abind (o.ev G call F) fun x => abind (aclsOf x) fun c => abind (aopt (G.mth c k)) fun j => abind (evs G call F args) fun xs => call (.fn j) (x :: xs),
  fun T sc ns => onCall fun g xs ks pos => on0 ks && onAttribute (fun v n apos => isNm T.mnames k n && o.mt T sc ns v && mEs T sc ns args xs && oneLine v apos pos && decide (xs.length ≤ 10) && isName v) g, fun y T sc ns x h env F => by
    obtain ⟨g, xs, ks, pos, rfl, h⟩ := onCall_i (f := _) h
    have h := and_i h
    have e := on0_i h.1
    subst e
    refine onAttribute_e h.2 fun v n apos hh => ?_
    have h := and_i hh
    have h6 := h.2
    have h := and_i h.1
    have h5 := of_decide_eq_true h.2
    have h := and_i h.1
    have h4 := h.2
    have h := and_i h.1
    have h3 := h.2
    have h := and_i h.1
    obtain ⟨nm, hn, hx⟩ := isNm_i h.1
    have p := pairE y env F h3
    exact valE (ev_own y.K y.C p.noStar h5 h6 h4 hn hx (o.ok y h.2 env F).1 p.evL) rfl⟩
noncomputable def mComp (T : Tabs) (sc : Scope) (ns names : List (List Nat)) (elt : XE) (t : XT) (src : XI) (ifs : List XE) (caps : List (Nat × Nat)) : Expr → Bool :=
  onListComp fun e gs sc' q_ => on1 (fun g => decide (g.is_async = 0) && closOk sc sc' ns names caps && (!src.pr || onTuple (fun q_ q_ q_ => true) g.target) && src.mt T sc ns g.iter && t.mt T sc' names g.target && elt.mt T sc' names e && mEs T sc' names ifs g.ifs && noFold g.iter) gs
theorem tg_i {b : Bool} {x : Expr} (h : (!b || onTuple (fun q_ q_ q_ => true) x) = true) : tgOf b x := by
  cases b with
  | false => exact trivial
  | true =>
    obtain ⟨_, _, _, rfl, _⟩ := onTuple_i (f := _) h
    exact ⟨_, _, _, rfl⟩
theorem comp_i {T : Tabs} {sc : Scope} {ns names : List (List Nat)} {elt : XE} {t : XT} {src : XI} {ifs : List XE} {caps : List (Nat × Nat)} {x : Expr} (h : mComp T sc ns names elt t src ifs caps x = true) :
    ∃ e tg it cs sc' p, x = .ListComp e [⟨tg, it, cs, 0⟩] sc' p ∧ closOk sc sc' ns names caps = true ∧ tgOf src.pr tg ∧ src.mt T sc ns it = true ∧ t.mt T sc' names tg = true ∧ elt.mt T sc' names e = true ∧ mEs T sc' names ifs cs = true ∧ noFold it = true := by
  obtain ⟨e, gs, sc', p, rfl, h⟩ := onListComp_i (f := _) h
  obtain ⟨⟨tg, it, cs, z⟩, rfl, h⟩ := on1_i h
  have h := and_i h
  have h7 := h.2
  have h := and_i h.1
  have h6 := h.2
  have h := and_i h.1
  have h5 := h.2
  have h := and_i h.1
  have h4 := h.2
  have h := and_i h.1
  have h3 := h.2
  have h := and_i h.1
  have h2 := h.2
  have h := and_i h.1
  have e := of_decide_eq_true h.1
  change z = 0 at e
  subst e
  exact ⟨_, _, _, _, _, _, rfl, h.2, tg_i h2, h3, h4, h5, h6, h7⟩
noncomputable def evComp (G : Glo) (call : Orc) (F : AF) (names : List (List Nat)) (elt : XE) (t : XT) (src : XI) (ifs : List XE) (caps : List (Nat × Nat)) : AM AV :=
  abind (src.sr G call F) fun xs => abind (aopt (capsOf F caps)) fun l => abind (acomp (cf (t.st G call) (fun F => ands G call F ifs) (fun F => elt.ev G call F) (putCaps (List.replicate names.length none) l)) xs) fun ys => abind (aopt (aif (ys.length ≤ line) ())) fun q_ => apure (.lst ys)
noncomputable def n_comp (names : List (List Nat)) (elt : XE) (t : XT) (src : XI) (ifs : List XE) (caps : List (Nat × Nat)) : XE := ⟨fun G call F => evComp G call F names elt t src ifs caps, fun T sc ns => mComp T sc ns names elt t src ifs caps, fun y T sc ns x h env F => by
    refine via fun R_ k_ => ?_
    obtain ⟨e, tg, it, cs, sc', p, rfl, h1, h2, h3, h4, h5, h6, h7⟩ := comp_i h
    refine k_ ?_
    exact valE (ev_comp y.hA (closOk_iff h1) h7 h2 (src.ok y h3 env F) (fun C' => t.ok y h4 _) (fun C' F' => (pairE y _ F' h6).evTs) (fun C' F' => (elt.ok y h5 _ F').1)) rfl⟩
noncomputable def n_pick (ks : List (List Nat)) (vs : List XE) (k : XE) : XE := ⟨fun G call F => abind (evs G call F vs) fun xs => abind (k.ev G call F) fun v => abind (aopt (toStr v)) fun s => aopt (((ks.zip xs).find? fun p => decide (s = p.1)).map (·.2)),
  fun T sc ns => onSubscript fun d s q_ => onDict (fun kes ves q_ => mKs ks kes && mEs T sc ns vs ves && k.mt T sc ns s && decide (ks.length ≤ 15) && decide ks.Nodup && decide (ks.length = ves.length) && isName s && !ks.isEmpty) d, fun y T sc ns x h env F => by
    obtain ⟨d, se, p, rfl, h⟩ := onSubscript_i (f := _) h
    refine onDict_e h fun kes ves dp h => ?_
    have h := and_i h
    have h8 := not_i h.2
    have h := and_i h.1
    have h7 := h.2
    have h := and_i h.1
    have h6 := of_decide_eq_true h.2
    have h := and_i h.1
    have h5 := of_decide_eq_true h.2
    have h := and_i h.1
    have h4 := of_decide_eq_true h.2
    have h := and_i h.1
    have h3 := h.2
    have h := and_i h.1
    obtain ⟨d1, d2, d3⟩ := (pairE y env F h.2).evD (p := dp) h.1 h6
    exact valE (ev_pick d1 d2 (by rw [← d3, h6]) (fun q => by subst q; rw [List.length_eq_zero_iff.mp d3] at h8; cases h8) (by rw [← d3]; exact h4) d3 h5 h7 (k.ok y h3 env F).1) rfl⟩
noncomputable def n_dget (kvs : List (Int × Int)) (k d : XE) : XE := ⟨fun G call F => abind (k.ev G call F) fun x => abind (d.ev G call F) fun y => abind (aopt (toInt x)) fun i => apure (match kvs.find? fun p => decide (i = p.1) with
    | some p => .int p.2
    | none => y),
  fun T sc ns => onCall fun g xs ks pos => on0 ks && onAttribute (fun v n apos => onDict (fun kes ves q_ => on2 (fun x y => mKi kvs kes ves && decide (n = Me.get.name) && apos.endLine == pos.line && decide (kvs.map (·.1)).Nodup && decide (kvs.length ≤ 15) && k.mt T sc ns x && d.mt T sc ns y && !isStar x && !isStar y && !kvs.isEmpty) xs) v) g, fun y T sc ns x h env F => by
    obtain ⟨g, xs, ks, pos, rfl, h⟩ := onCall_i (f := _) h
    have h := and_i h
    have e := on0_i h.1
    subst e
    refine onAttribute_e h.2 fun v n apos hh => ?_
    refine onDict_e hh fun kes ves dp hh => ?_
    refine on2_e hh fun x z hh => ?_
    have h := and_i hh
    have h10 := not_i h.2
    have h := and_i h.1
    have h9 := not_i h.2
    have h := and_i h.1
    have h8 := not_i h.2
    have h := and_i h.1
    have h7 := h.2
    have h := and_i h.1
    have h6 := h.2
    have h := and_i h.1
    have h5 := of_decide_eq_true h.2
    have h := and_i h.1
    have h4 := of_decide_eq_true h.2
    have h := and_i h.1
    have h3 := h.2
    have h := and_i h.1
    refine valE ?_ rfl
    exact ev_dget y.O h.1 (of_decide_eq_true h.2) h3 h4 h5 (fun q => by rw [q] at h10; cases h10) h8 h9 (k.ok y h6 env F).1 (d.ok y h7 env F).1⟩
end
section
set_option Elab.async false
set_option autoImplicit false
set_option linter.unusedVariables false
set_option linter.unusedSectionVars false
set_option maxRecDepth 100000
set_option backward.match.sparseCases false
set_option tactic.hygienic false
set_option genSizeOf false
set_option genInjectivity false
open PySem PySem.W PyProof.Rows PySem.Calls
section
variable {B : Base} {A : Around} {T : Tabs} {sc : Scope} {ns : List (List Nat)} {env : Env}
noncomputable def starless (x : Expr) : Bool := !onTuple (fun vs q_ q_ => vs.any isStar) x
theorem not_i_any {vs : List Expr} {k : Nat} {p : Pos} (h : starless (.Tuple vs k p) = true) : (vs.all fun e => !isStar e) = true := by
  have h : vs.any isStar = false := not_i h
  rw [List.all_eq_not_any_not]
  simp only [Bool.not_not]
  rw [h]; rfl
set_option tactic.hygienic true in
theorem ordered {tg x : Expr} (h : inOrder tg x = true) (hk : env.scope.kind = .function) (hst : starless x = true) : swappedStores [tg] x env = pure none := by
  cases tg with
  | Tuple ts k p =>
    cases x with
    | Tuple vs k2 p2 =>
      have hst : (vs.all fun e => !isStar e) = true := not_i_any hst
      have h := (Bool.or_eq_true _ _).mp (show (ts.any (fun t => !isName t) || vs.all (foldedForSure 8)) = true from h)
      unfold swappedStores
      dsimp only
      split
      · rfl
      · split
        · rfl
        · split
          · rfl
          · rename_i h1 h2 h3
            rcases h with h | h
            · exfalso
              apply h3
              rw [Bool.or_eq_true]
              left
              rw [bne_iff_ne]
              intro hl
              rw [List.any_eq_true] at h
              obtain ⟨t, ht, hnm⟩ := h
              have : ∀ (ts : _root_.List Expr) (f : Expr → Option Str), (∀ t ∈ ts, (f t).isSome = true → isName t = true) → (ts.filterMap f).length = ts.length → ∀ t ∈ ts, isName t = true := by
                intro ts f hf
                induction ts with
                | nil => intro _ t ht; cases ht
                | cons a ts ih =>
                  intro hl t ht
                  have sub : (ts.filterMap f).length ≤ ts.length := List.length_filterMap_le _ _
                  rw [List.filterMap_cons] at hl
                  cases e : f a with
                  | none =>
                    rw [e] at hl
                    dsimp only at hl
                    rw [List.length_cons] at hl
                    omega
                  | some b =>
                    rw [e] at hl
                    simp only [List.length_cons, Nat.add_right_cancel_iff] at hl
                    rcases List.mem_cons.mp ht with rfl | ht
                    · exact hf _ List.mem_cons_self (by rw [e]; rfl)
                    · exact ih (fun t ht => hf t (List.mem_cons_of_mem _ ht)) hl t ht
              have := this ts _ (fun t q_ hs => by cases t <;> first | rfl | cases hs) hl t ht
              rw [this] at hnm
              cases hnm
            · rw [if_pos h]
    | _ => rfl
  | List => exact bad h
  | _ => rfl
noncomputable def onFn (w : List Nat) (sc : Scope) (k : List Expr → Bool) : Expr → Bool := onCall fun g xs ks q_ => on0 ks && onName (fun n q_ => isS w n && isKind sc n .globalImplicit) g && k xs
theorem onFn_i {w : List Nat} {sc : Scope} {k : List Expr → Bool} {x : Expr} (h : onFn w sc k x = true) : ∃ n np xs p, x = .Call (.Name n np) xs [] p ∧ isS w n = true ∧ isKind sc n .globalImplicit = true ∧ k xs = true := by
  obtain ⟨g, xs, ks, p, rfl, h⟩ := onCall_i (f := _) h
  have h := and_i h
  have h2 := h.2
  have h := and_i h.1
  have e := on0_i h.1
  subst e
  refine onName_e h.2 fun n np hh => ?_
  have h := and_i hh
  exact ⟨n, np, xs, p, rfl, h.1, h.2, h2⟩
noncomputable def m1 (T : Tabs) (sc : Scope) (ns : List (List Nat)) (a : XE) : List Expr → Bool := on1 fun x => a.mt T sc ns x && !isStar x
noncomputable def m2 (T : Tabs) (sc : Scope) (ns : List (List Nat)) (a b : XE) : List Expr → Bool := on2 fun x y => a.mt T sc ns x && b.mt T sc ns y && !isStar x && !isStar y
theorem m2_i {a b : XE} {xs : List Expr} (h : m2 T sc ns a b xs = true) : ∃ x y, xs = [x, y] ∧ a.mt T sc ns x = true ∧ b.mt T sc ns y = true ∧ isStar x = false ∧ isStar y = false := by
  refine on2_e h fun x y h => ?_
  have h6 := and_i h
  have h5 := and_i h6.1
  have h4 := and_i h5.1
  exact ⟨x, y, rfl, h4.1, h4.2, not_i h5.2, not_i h6.2⟩
noncomputable def i_of (e : XE) : XI := ⟨fun G call F => abind (e.ev G call F) fun v => aopt (aiterOf v), false, e.mt, fun y T sc ns x h env F => evI_of (tg := fun q_ => True) (e.ok y h env F).1 (fun q_ q_ => trivial) rfl⟩
noncomputable def i_range1 (a : XE) : XI := ⟨fun G call F => abind (a.ev G call F) fun v => abind (aopt (toInt v)) fun i => abind (aopt (aif (small i = true) ())) fun q_ => apure (rangeOf 0 i), false,
  fun T sc ns => onFn [114, 97, 110, 103, 101] sc (m1 T sc ns a), fun y T sc ns x h env F => by
    obtain ⟨n, np, xs, p, rfl, h1, h2, h⟩ := onFn_i h
    refine on1_e h fun z h => ?_
    have h := and_i h
    exact evI_range1 y.O y.Sr h1 h2 (not_i h.2) (a.ok y h.1 env F).1⟩
noncomputable def i_range2 (a b : XE) : XI := ⟨fun G call F => abind (a.ev G call F) fun v => abind (b.ev G call F) fun w => abind (aopt (toInt v)) fun i => abind (aopt (toInt w)) fun j => abind (aopt (aif ((small i && small j) = true) ())) fun q_ => apure (rangeOf i j), false,
  fun T sc ns => onFn [114, 97, 110, 103, 101] sc (m2 T sc ns a b), fun y T sc ns x h env F => by
    obtain ⟨n, np, xs, p, rfl, h1, h2, h⟩ := onFn_i h
    obtain ⟨u, z, rfl, h3, h4, h5, h6⟩ := m2_i h
    exact evI_range2 y.O y.Sr h1 h2 h5 h6 (a.ok y h3 env F).1 (b.ok y h4 env F).1⟩
noncomputable def i_zip (a b : XE) : XI := ⟨fun G call F => abind (a.ev G call F) fun v => abind (b.ev G call F) fun w => abind (aopt (toStr v)) fun s => abind (aopt (toStr w)) fun t => apure (zipOf (s.map fun c => .str [c]) (t.map fun c => .str [c])), true,
  fun T sc ns => onFn [122, 105, 112] sc (m2 T sc ns a b), fun y T sc ns x h env F => by
    obtain ⟨n, np, xs, p, rfl, h1, h2, h⟩ := onFn_i h
    obtain ⟨u, z, rfl, h3, h4, h5, h6⟩ := m2_i h
    exact evI_zip y.O y.Sr h1 h2 h5 h6 (a.ok y h3 env F).1 (b.ok y h4 env F).1⟩
noncomputable def t_var (i : Nat) (c : Bool) : XT := ⟨fun q_ q_ v F => abind (aopt (aif ((i < F.length && (!c || (nth F i).isNone)) = true) ())) fun q_ => apure (setN F i (some v)),
  fun T sc ns => onName fun x q_ => isNm ns i x && isKind sc x (if c then .cell else .local), fun y T sc ns x h env => by
    obtain ⟨id, p, rfl, h⟩ := onName_i (f := _) h
    have h := and_i h
    obtain ⟨n, hn, hx⟩ := isNm_i h.1
    intro F; simp only [nth_eq, setN_eq]; exact as_var hn hx h.2 F⟩
noncomputable def sts (G : Glo) (call : Orc) (ts : List XT) : List AV → AF → AM AF := @List.rec XT (fun q_ => List AV → AF → AM AF) (fun xs F => abind (aopt (aif (xs = []) ())) fun q_ => apure F) (fun t q_ ih xs F => abind (aopt xs.head?) fun x => abind (t.st G call x F) fun F' => ih xs.tail F') ts
noncomputable def mTs (T : Tabs) (sc : Scope) (ns : List (List Nat)) : List XT → List Expr → Bool
  | [] => on0
  | t :: r => onC fun x xs => !isStar x && t.mt T sc ns x && mTs T sc ns r xs
theorem sts_ok {A : Around} {call' : Orc} (y : Hyp B A call') (env : Env) : ∀ {ts : List XT} {xs : List Expr}, mTs T sc ns ts xs = true → (xs.all fun t => !isStar t) = true ∧ AsTs B A T sc ns env xs (sts B.Gl call' ts)
  | [], xs, h => by
    have h := on0_i (show on0 xs = true from h)
    subst h
    exact ⟨rfl, asts_nil⟩
  | t :: r, xs, h => by
    refine onC_e (f := _) h fun x xs h => ?_
    have h := and_i h
    have g := and_i h.1
    have st := not_i g.1
    obtain ⟨a, b⟩ := sts_ok y env h.2
    exact ⟨by rw [List.all_cons, st, a]; rfl, asts_cons st (t.ok y g.2 env) b⟩
noncomputable def t_tup (ts : List XT) : XT := ⟨fun G call v F => abind (aopt (toTup v)) fun xs => sts G call ts xs F, fun T sc ns => onTuple fun xs q_ q_ => mTs T sc ns ts xs && decide (xs.length ≤ 20), fun y T sc ns x h env => by
    obtain ⟨xs, k, p, rfl, h⟩ := onTuple_i (f := _) h
    obtain ⟨a, b⟩ := sts_ok y env (and_i h).1
    exact as_tup y.hA a b⟩
noncomputable def t_attr (o : XE) (f : Fld) : XT := ⟨fun G call v F => abind (o.ev G call F) fun x => abind (asetA x f v) fun q_ => apure F, fun T sc ns => onAttribute fun v n q_ => decide (n = f.name) && o.mt T sc ns v, fun y T sc ns x h env => by
    obtain ⟨v, n, p, rfl, h⟩ := onAttribute_i (f := _) h
    have h := and_i h
    have h1 := of_decide_eq_true h.1
    subst h1
    exact as_attr y.K fun F => (o.ok y h.2 env F).1⟩
noncomputable def t_sub (o i : XE) : XT := ⟨fun G call v F => abind (o.ev G call F) fun x => abind (i.ev G call F) fun k => abind (asetI x k v) fun q_ => apure F, fun T sc ns => onSubscript fun v s q_ => o.mt T sc ns v && i.mt T sc ns s && !isSlice s, fun y T sc ns x h env => by
    obtain ⟨v, s, p, rfl, h⟩ := onSubscript_i (f := _) h
    have h := and_i h
    have g := and_i h.1
    exact as_sub (fun F => (o.ok y g.1 env F).1) (fun F => (i.ok y g.2 env F).1) (not_i h.2)⟩
end
noncomputable def exs (G : Glo) (call : Orc) (W : Nat) (ss : List XS) : AF → AM (Flo × AF) := @List.rec XS (fun q_ => AF → AM (Flo × AF)) (fun F => apure (.next, F)) (fun s q_ ih F => abind (s.ex G call W F) fun p => athen ih p) ss
noncomputable def mSs (T : Tabs) (sc : Scope) (ns : List (List Nat)) : List XS → List Stmt → Bool
  | [] => on0
  | s :: r => onC fun x xs => s.mt T sc ns x && mSs T sc ns r xs
theorem exs_ok {B : Base} {A : Around} {call' : Orc} {T : Tabs} {sc : Scope} {ns : List (List Nat)} (y : Hyp B A call') (W : Nat) {env : Env} (hk : env.scope.kind = .function) : ∀ {ss : List XS} {xs : List Stmt}, mSs T sc ns ss xs = true → ExS B A T sc ns env (execs xs env) (exs B.Gl call' W ss)
  | [], xs, h => by
    have h := on0_i (show on0 xs = true from h)
    subst h
    exact exs_nil
  | s :: r, xs, h => by
    refine onC_e (f := _) h fun x xs h => ?_
    have h := and_i h
    exact exs_cons (s.ok y W h.1 env hk) (exs_ok y W hk h.2)
noncomputable def s_expr (e : XE) : XS := ⟨fun G call q_ F => abind (e.ev G call F) fun v => abind (aopt (aif ((v.isNone || (toInt v).isSome) = true) ())) fun q_ => apure (.next, F), fun T sc ns => stExpr fun x q_ => e.mt T sc ns x && notComp x, fun y W T sc ns x h env hk => by
  obtain ⟨z, p, rfl, h⟩ := stExpr_i (f := _) h
  have h := and_i h
  exact ex_expr h.2 (fun F => (e.ok y h.1 env F).1)⟩
noncomputable def s_ret (e : XE) : XS := ⟨fun G call q_ F => abind (e.ev G call F) fun v => apure (.ret v, F), fun T sc ns => stReturn fun x q_ => onS (e.mt T sc ns) x, fun y W T sc ns x h env hk => by
  obtain ⟨o, p, rfl, h⟩ := stReturn_i (f := _) h
  refine onS_e h fun z h => ?_
  exact ex_ret fun F => (e.ok y h env F).1⟩
noncomputable def s_retN : XS := ⟨fun q_ q_ q_ F => apure (.ret .none, F), fun q_ q_ q_ => stReturn fun x q_ => onN x, fun y W T sc ns x h env hk => by
  obtain ⟨o, p, rfl, h⟩ := stReturn_i (f := _) h
  have h := onN_i h
  subst h
  exact ex_retN⟩
noncomputable def s_assign (t : XT) (e : XE) : XS := ⟨fun G call q_ F => abind (e.ev G call F) fun v => abind (t.st G call v F) fun F' => apure (.next, F'), fun T sc ns => stAssign fun ts x q_ => on1 (fun tg => t.mt T sc ns tg && e.mt T sc ns x && notComp x && !isStar tg && inOrder tg x && starless x) ts, fun y W T sc ns x h env hk => by
  obtain ⟨ts, x, p, rfl, h⟩ := stAssign_i (f := _) h
  refine on1_e h fun tg h => ?_
  have h := and_i h
  have h6 := h.2
  have h := and_i h.1
  have h5 := h.2
  have h := and_i h.1
  have h4 := not_i h.2
  have h := and_i h.1
  have h3 := h.2
  have h := and_i h.1
  exact ex_assign h3 h4 (ordered h5 hk h6) (fun F => (e.ok y h.2 env F).1) (t.ok y h.1 env)⟩
noncomputable def plus (o : Op2) : Bool := (o != .mul) && (o != .mod) && (o != .fdiv)
theorem plus_i {o : Op2} (h : plus o = true) : o ≠ .mul ∧ o ≠ .mod ∧ o ≠ .fdiv := by
  have h := and_i h
  have g := and_i h.1
  exact ⟨bne_iff_ne.mp g.1, bne_iff_ne.mp g.2, bne_iff_ne.mp h.2⟩
noncomputable def s_aug (i : Nat) (o : Op2) (e : XE) : XS := ⟨fun G call q_ F => abind (aopt (nth F i)) fun x => abind (e.ev G call F) fun y => abind (aopt (abin o x y)) fun z => abind (aopt (toInt z)) fun k => apure (.next, setN F i (some (.int k))),
  fun T sc ns => stAugAssign fun t p v q_ => onName (fun x q_ => isNm ns i x && isKind sc x .local) t && op2 o p && e.mt T sc ns v && plus o, fun y W T sc ns x h env hk => by
  obtain ⟨t, q, v, p, rfl, h⟩ := stAugAssign_i (f := _) h
  have h := and_i h
  obtain ⟨h5, h6, h7⟩ := plus_i h.2
  have h := and_i h.1
  have h4 := h.2
  have h := and_i h.1
  have e3 := op2_eq h.2
  subst e3
  refine onName_e h.1 fun z p' hh => ?_
  have h := and_i hh
  obtain ⟨n, hn, hx⟩ := isNm_i h.1
  intro F; simp only [nth_eq, setN_eq]; exact ex_aug hn hx h.2 h5 h6 h7 (fun F => (e.ok y h4 env F).1) F⟩
noncomputable def s_augA (a : XE) (f : Fld) (o : Op2) (e : XE) : XS := ⟨fun G call q_ F => abind (a.ev G call F) fun x => abind (agetA x f) fun v => abind (e.ev G call F) fun y => abind (aopt (abin o v y)) fun z => abind (aopt (toInt z)) fun k => abind (asetA x f (.int k)) fun q_ => apure (.next, F),
  fun T sc ns => stAugAssign fun t p x q_ => onAttribute (fun v n q_ => decide (n = f.name) && a.mt T sc ns v) t && op2 o p && e.mt T sc ns x && plus o, fun y W T sc ns x h env hk => by
  obtain ⟨t, q, v, p, rfl, h⟩ := stAugAssign_i (f := _) h
  have h := and_i h
  obtain ⟨h5, h6, h7⟩ := plus_i h.2
  have h := and_i h.1
  have h4 := h.2
  have h := and_i h.1
  have e3 := op2_eq h.2
  subst e3
  refine onAttribute_e h.1 fun z n p' hh => ?_
  have h := and_i hh
  have h1 := of_decide_eq_true h.1
  subst h1
  exact ex_augA y.K h5 h6 h7 (fun F => (a.ok y h.2 env F).1) (fun F => (e.ok y h4 env F).1)⟩
noncomputable def s_if (c : XE) (a b : List XS) : XS := ⟨fun G call W F => abind (c.ev G call F) fun v => abind (aopt (truthA v)) fun t => if t then exs G call W a F else exs G call W b F, fun T sc ns => stIf fun t x y q_ => c.mt T sc ns t && mSs T sc ns a x && mSs T sc ns b y, fun y W T sc ns x h env hk => by
  obtain ⟨t, u, v, p, rfl, h⟩ := stIf_i (f := _) h
  have h := and_i h
  have g := and_i h.1
  exact ex_cond (fun F => (c.ok y g.1 env F).2) (exs_ok y W hk g.2) (exs_ok y W hk h.2)⟩
noncomputable def s_while (c : XE) (a : List XS) : XS := ⟨fun G call W F => awhile (fun F => abind (c.ev G call F) fun v => aopt (truthA v)) (fun F => exs G call W a F) W F, fun T sc ns => stWhile fun t x e q_ => on0 e && c.mt T sc ns t && mSs T sc ns a x, fun y W T sc ns x h env hk => by
  obtain ⟨t, u, v, p, rfl, h⟩ := stWhile_i (f := _) h
  have h := and_i h
  have g := and_i h.1
  have e := on0_i g.1
  subst e
  exact ex_while (fun F => (c.ok y g.2 env F).2) (exs_ok y W hk h.2)⟩
noncomputable def s_for (t : XT) (src : XI) (a : List XS) : XS := ⟨fun G call W F => abind (src.sr G call F) fun xs => afor (fun x F => abind (t.st G call x F) fun F' => exs G call W a F') xs F,
  fun T sc ns => stFor fun tg it x e q_ => on0 e && t.mt T sc ns tg && src.mt T sc ns it && mSs T sc ns a x && noFold it && (!src.pr || onTuple (fun q_ q_ q_ => true) tg), fun y W T sc ns x h env hk => by
  obtain ⟨tg, it, u, v, p, rfl, h⟩ := stFor_i (f := _) h
  have h := and_i h
  have h5 := h.2
  have h := and_i h.1
  have h4 := h.2
  have h := and_i h.1
  have h3 := h.2
  have h := and_i h.1
  have h2 := h.2
  have h := and_i h.1
  have e := on0_i h.1
  subst e
  exact ex_for y.hA h4 (tg_i h5) (fun F => src.ok y h2 env F) (t.ok y h.2 env) (exs_ok y W hk h3)⟩
noncomputable def s_forL (t : XT) (e : XE) (a : List XS) : XS := ⟨fun G call W F => abind (e.ev G call F) fun v => abind (aopt (toObj v)) fun n => aforL n (fun x F => abind (t.st G call x F) fun F' => exs G call W a F') W 0 F,
  fun T sc ns => stFor fun tg it x o q_ => on0 o && t.mt T sc ns tg && e.mt T sc ns it && mSs T sc ns a x && noFold it, fun y W T sc ns x h env hk => by
  obtain ⟨tg, it, u, v, p, rfl, h⟩ := stFor_i (f := _) h
  have h := and_i h
  have h4 := h.2
  have h := and_i h.1
  have h3 := h.2
  have h := and_i h.1
  have h2 := h.2
  have h := and_i h.1
  have e' := on0_i h.1
  subst e'
  exact ex_forL (W := W) y.hA h4 (fun F => (e.ok y h2 env F).1) (t.ok y h.2 env) (exs_ok y W hk h3)⟩
noncomputable def s_acomp (i : Nat) (names : List (List Nat)) (elt : XE) (t : XT) (src : XI) (ifs : List XE) (caps : List (Nat × Nat)) : XS := ⟨fun G call q_ F => abind (evComp G call F names elt t src ifs caps) fun v => abind (aopt (aif (i < F.length) ())) fun q_ => apure (.next, F.set i (some v)),
  fun T sc ns => stAssign fun ts v q_ => on1 (onName fun x q_ => isNm ns i x && isKind sc x .local) ts && mComp T sc ns names elt t src ifs caps v, fun y W T sc ns x h env hk => by
  obtain ⟨ts, x, p, rfl, h⟩ := stAssign_i (f := _) h
  have h := and_i h
  refine on1_e h.1 fun tg h1 => ?_
  refine onName_e h1 fun z yp h1 => ?_
  have h1 := and_i h1
  refine via fun R_ k_ => ?_
  obtain ⟨n, hn, hx⟩ := isNm_i h1.1
  obtain ⟨e, tg, it, cs, sc', p', rfl, g1, g2, g3, g4, g5, g6, g7⟩ := comp_i h.2
  refine k_ ?_
  exact ex_acomp y.hA hn hx h1.2 (closOk_iff g1) g7 g2 (mi := fun F => src.sr _ _ F) (fun F => src.ok y g3 env F) (fun C' => t.ok y g4 _) (fun C' F' => (pairE y _ F' g6).evTs) (fun C' F' => (elt.ok y g5 _ F').1)⟩
noncomputable def s_swap (is : List Nat) (es : List XE) : XS := ⟨fun G call q_ F => abind (evs G call F es) fun xs => abind (aopt (aif (xs.length = is.length ∧ is.all (fun i => decide (i < F.length)) = true) ())) fun q_ => apure (.next, asets is xs F),
  fun T sc ns => stAssign fun ts v q_ => on1 (onTuple fun ts q_ q_ => onTuple (fun vs q_ q_ => mNs sc ns is ts && mEs T sc ns es vs && (ts.length == 2 || ts.length == 3) && decide (ts.length = vs.length) && decide is.Nodup &&
      ts.all (fun t => t.pos.line == (ts.head?.map (·.pos.line)).getD 0) && !vs.all (foldedForSure 8) && !vs.all (constantsAlone 8)) v) ts, fun y W T sc ns x h env hk => by
  obtain ⟨ts, v, p, rfl, h⟩ := stAssign_i (f := _) h
  refine on1_e h fun tg h => ?_
  refine onTuple_e h fun ts k1 p1 h => ?_
  refine onTuple_e h fun vs k2 p2 h => ?_
  have h := and_i h
  have h8 := not_i h.2
  have h := and_i h.1
  have h7 := not_i h.2
  have h := and_i h.1
  have h6 := h.2
  have h := and_i h.1
  have h5 := of_decide_eq_true h.2
  have h := and_i h.1
  have h4 := of_decide_eq_true h.2
  have h := and_i h.1
  have h3 := h.2
  have h := and_i h.1
  have pr := fun F => pairE y env F h.2
  refine ex_swap y.hA h.1 h5 h3 h4.symm (pr []).noStar (fun t ht => (List.all_eq_true.mp h6) t ht) h7 h8 (fun F => (pr F).evL) (fun F H xs H' e => ?_)
  rw [(pr F).len _ _ _ e, ← h4]
  rcases (Bool.or_eq_true _ _).mp h3 with q | q <;> (rw [eq_of_beq q]; decide)⟩
noncomputable def s_raise (e : XE) : XS := ⟨fun q_ q_ q_ q_ => afail, fun T sc ns => stRaise fun x c q_ => onN c && onS (e.mt T sc ns) x, fun y W T sc ns x h env hk F s G H fl F' H' P I eq => nos eq⟩
noncomputable def s_try (a : List XS) (i : Nat) (hd : List XS) : XS := ⟨fun G call W F => exs G call W a F,
  fun T sc ns => stTry fun x hs o f q_ => on0 o && on0 f && on1 (fun e => @ExceptHandler.casesOn (fun q_ => Bool) e fun c y z q_ => onS (onName fun c q_ => isS [74, 83, 70, 97, 105, 108] c && isKind sc c .globalImplicit) c && onS (fun y => isNm ns i y && isKind sc y .local) y && mSs T sc ns hd z) hs && mSs T sc ns a x, fun y W T sc ns x h env hk => by
  obtain ⟨x, hs, o, f, p, rfl, h⟩ := stTry_i (f := _) h
  have h := and_i h
  have ia := exs_ok y W hk h.2
  have h := and_i h.1
  obtain ⟨⟨c, z, u, hp⟩, rfl, hh⟩ := on1_i h.2
  have h := and_i h.1
  have e1 := on0_i h.1
  have e2 := on0_i h.2
  subst e1; subst e2
  have hh := and_i hh
  have hh := and_i hh.1
  refine onS_e hh.1 fun c h1 => ?_
  refine onS_e hh.2 fun z h2 => ?_
  refine onName_e h1 fun c cp q_ => ?_
  intro F s G H fl F' H' P I eq Q E hQ
  refine wpAny_Try_except (ia F s G H fl F' H' P I eq _ _ fun f G1 h1 t1 s1 I1 P1 r1 => ?_)
  cases f with
  | next => exact wpAny_execs_nil (hQ _ G1 h1 t1 s1 I1 P1 r1)
  | _ => exact hQ _ G1 h1 t1 s1 I1 P1 r1⟩
end
section
set_option Elab.async false
set_option autoImplicit false
set_option linter.unusedVariables false
set_option linter.unusedSectionVars false
set_option maxRecDepth 100000
set_option tactic.hygienic false
set_option genSizeOf false
set_option genInjectivity false
open PySem PySem.W PyProof.Rows PySem.Calls
structure IFn where
  names : List (List Nat)
  np : Nat
  body : List XS
noncomputable def mF (T : Tabs) (f : IFn) : Stmt → Bool := stFunctionDef fun q_ args body ds rs tps sc ts q_ q_ => on0 ds && onN rs && on0 tps && onN ts && decide (args.args.map (fun x => x.arg.cps.toList) = f.names.take f.np) && scopeOk sc f.names && sc.names.all (fun p => p.2 != .free) && mSs T sc f.names f.body body
section
noncomputable def noRef : Nat → AV → Bool
  | 0, _ => false
  | n + 1, x => match x with
    | .tup xs => xs.all (noRef n)
    | .lst xs => xs.all (noRef n)
    | .row _ => false
    | .dct _ => false
    | .obj _ => false
    | _ => true
noncomputable def apart (b : Bool) (m : AM AV) : AM AV := fun H => cond b ((m []).bind fun p => aif (noRef 6 p.1 = true) (p.1, H)) (m H)
variable (G : Glo) (fns : Nat → Option IFn) (iso : Nat → Bool) (W : Nat)
noncomputable def arun (call : Orc) (f : IFn) (args : List AV) : AM AV := abind (aopt (frameOf f.names.length f.np args [])) fun F => abind (exs G call W f.body F) fun p => apure p.1.val
noncomputable def acall : Nat → AV → List AV → AM AV
  | 0, _, _ => afail
  | n + 1, f, args => match f with
    | .fn k => abind (aopt (fns k)) fun ir => apart (iso k && args.all (noRef 8)) (arun G W (acall n) ir args)
    | .cls c => abind (aopt (G.ini c)) fun k => abind (anewI c) fun o => abind (acall n (.fn k) (o :: iniArgs c args)) fun z => abind (aopt (aif (z.isNone = true) ())) fun q_ => apure o
    | _ => afail
end
theorem Rep.free {B : Base} {G G' : St} (k : ∀ b o, G.g b = some o → G'.g b = some o) : ∀ (n : Nat) (x : AV) (v : Value), noRef n x = true → Rep B G x v → Rep B G' x v
  | 0, _, _, h, _ => bad h
  | n + 1, x, v, h, r => by
    have all : ∀ (xs : List AV) (vs : List Value), xs.all (noRef n) = true → RepL B G xs vs → RepL B G' xs vs := fun xs => by
      induction xs with
      | nil => intro vs _ r; exact r
      | cons x xs ih =>
        rintro vs h ⟨v, l, e, a, b⟩
        have h := and_i (show (noRef n x && xs.all (noRef n)) = true from h)
        exact ⟨v, l, e, Rep.free k n x v h.1 a, ih _ h.2 b⟩
    cases x with
    | tup xs =>
      refine via fun R_ k_ => ?_
      obtain ⟨a, vs, m, e, g, q⟩ := r
      refine k_ ?_
      exact ⟨a, vs, m, e, k _ _ g, all _ _ h q⟩
    | lst xs =>
      refine via fun R_ k_ => ?_
      obtain ⟨a, vs, m, e, g, q⟩ := r
      refine k_ ?_
      exact ⟨a, vs, m, e, k _ _ g, all _ _ h q⟩
    | row _ => exact bad h
    | dct _ => exact bad h
    | obj _ => exact bad h
    | _ => exact r
theorem RepL.free {B : Base} {G G' : St} (k : ∀ b o, G.g b = some o → G'.g b = some o) (n : Nat) : ∀ (xs : List AV) (vs : List Value), xs.all (noRef n) = true → RepL B G xs vs → RepL B G' xs vs
  | [], _, _, r => r
  | x :: xs, _, h, ⟨v, l, e, a, b⟩ => by
    have h := and_i (show (noRef n x && xs.all (noRef n)) = true from h)
    exact ⟨v, l, e, Rep.free k n x v h.1 a, RepL.free k n xs _ h.2 b⟩
theorem yields_apart {B : Base} {A : Around} {t : Sem Value} {G : St} {H H' : AH} {m : AM AV} {b : Bool} {z : AV} {s : Shared} (e : apart b m H = some (z, H')) (I : Inv B G H s.heap)
    (h1 : b = false → m H = some (z, H') → Yields B A t G H H' z s) (h2 : b = true → ∀ J, m [] = some (z, J) → Inv B ⟨G.g, []⟩ [] s.heap → Yields B A t ⟨G.g, []⟩ [] J z s) : Yields B A t G H H' z s := by
  cases b with
  | false => exact h1 rfl e
  | true =>
    refine via fun R_ k_ => ?_
    obtain ⟨⟨z', J⟩, e1, e2⟩ := bind_some (o := m []) (show (m []).bind _ = some (z, H') from e)
    obtain ⟨hn, e3⟩ := aif_some e2
    refine k_ ?_
    cases e3
    have I0 : Inv B ⟨G.g, []⟩ [] s.heap := ⟨I.sub, I.old, rfl, List.Pairwise.nil, (fun q_ m => nomatch m), (fun q_ q_ q_ e => nomatch e)⟩
    intro Q E hQ
    refine h2 rfl J e1 I0 Q E fun v G' h' tk' st I' r => ?_
    have st' : Step B Pure G s.heap ⟨G'.g, G.al⟩ h' := ⟨st.live, st.mono, st.ext, ⟨[], (List.append_nil _).symm, fun q_ hm => nomatch hm⟩, fun b o x q_ ht e => st.keep b o x (fun m => nomatch m) ht e⟩
    refine hQ v ⟨G'.g, G.al⟩ h' tk' st' ⟨I'.sub, I'.old, I.len, I.nod, fun a ha => ?_, fun i o p a b => ?_⟩ (Rep.free (G := G') (G' := ⟨G'.g, G.al⟩) (fun q_ q_ e => e) _ _ _ hn r)
    · obtain ⟨x, y, o, q⟩ := I.off a ha
      exact ⟨(st.ext a o q (fun q => q)).trans x, y, st.live a o (fun q => q) q⟩
    · exact AObjOk.mono (G := G) (G' := ⟨G'.g, G.al⟩) st.mono (fun q_ q_ e => e) (fun o q => st.keep _ o (fun q => q) (fun m => nomatch m) (fun m => nomatch m) q) (fun d o q_ q => st.keep _ o (fun q => q) (fun m => nomatch m) (fun m => nomatch m) q) (I.objs i o p a b)
theorem acall_fn {G : Glo} {fns : Nat → Option IFn} {iso : Nat → Bool} {W n : Nat} {k : Nat} {xs : List AV} : acall G fns iso W (n + 1) (.fn k) xs = abind (aopt (fns k)) fun ir => apart (iso k && xs.all (noRef 8)) (arun G W (acall G fns iso W n) ir xs) := rfl
theorem acall_cls {G : Glo} {fns : Nat → Option IFn} {iso : Nat → Bool} {W n : Nat} {c : Cls} {xs : List AV} : acall G fns iso W (n + 1) (.cls c) xs = abind (aopt (G.ini c)) fun k => abind (anewI c) fun o => abind (acall G fns iso W n (.fn k) (o :: iniArgs c xs)) fun z => abind (aopt (aif (z.isNone = true) ())) fun q_ => apure o := rfl
noncomputable def FnOK (B : Base) (k : Nat) (f : IFn) : Prop := ∃ fd T body, FnCore B (B.fnA k) fd T f.names f.np ∧ fd.body = .stmts body ∧ mSs T fd.scope f.names f.body body = true ∧
  ∀ (s : Shared) (G : St) (H : AH) (vs : List Value), Inv B G H s.heap → vs.length = f.np → BindsTo s fd ⟨vs, []⟩ (((f.names.take f.np).map toS).zip vs)
structure FnsOk (B : Base) (fns : Nat → Option IFn) : Prop where
  all : ∀ k f, fns k = some f → FnOK B k f
  nofail : B.Gl.ini .fail = none
  lim : ∀ k f, B.Gl.ini .limits = some k → fns k = some f → ∀ (o : Obj) (fd : FuncData), B.h₀.get? (B.fnA k) = some o → o.data = .func fd → ∃ t1 t2 t3 t4, ∀ (s : Shared) (G : St) (H : AH) (x : Value), Inv B G H s.heap →
    BindsTo s fd ⟨[x], []⟩ (((f.names.take f.np).map toS).zip [x, .int 40 t1, .int 200 t2, .int (10 ^ 9) t3, .int (10 ^ 6) t4]) ∧
    ∀ u, BindsTo s fd ⟨[x], [(toS [115, 116, 101, 112, 115], u)]⟩ (((f.names.take f.np).map toS).zip [x, .int 40 t1, .int 200 t2, u, .int (10 ^ 6) t4])
theorem acall_cls_some {G : Glo} {fns : Nat → Option IFn} {iso : Nat → Bool} {W n : Nat} {c : Cls} {xs : List AV} {H H' : AH} {z : AV} (e : acall G fns iso W (n + 1) (.cls c) xs H = some (z, H')) :
    ∃ k, G.ini c = some k ∧ z = .obj H.length ∧ acall G fns iso W n (.fn k) (.obj H.length :: iniArgs c xs) (H ++ [.inst c fun q_ => none]) = some (.none, H') := by
  rw [acall_cls] at e
  refine via fun R_ k_ => ?_
  obtain ⟨k, hk, e1⟩ := abind_opt e
  obtain ⟨o, H1, e2, e3⟩ := abind_some e1
  refine k_ ?_
  clear e e1
  cases (show anewI c H = some (o, H1) from e2)
  obtain ⟨v, H2, e4, e5⟩ := abind_some e3
  obtain ⟨hz, e6⟩ := abind_aif e5
  obtain ⟨rfl, rfl⟩ := apure_some e6
  have hz := isNone_eq hz
  subst hz
  exact ⟨k, hk, rfl, e4⟩
section
variable {B : Base} {fns : Nat → Option IFn} (O : BaseOk B) (K : ClassesOk B) (Sr : SrcOk B) (FO : FnsOk B fns) (iso : Nat → Bool) (W : Nat)
include O K Sr FO
theorem Room.deeper {A : Around} {n : Nat} (r : Room A (n + 1)) (env : Env) : Room (A.deeper env) n := by
  obtain ⟨a, b, c⟩ := r
  refine ⟨?_, ?_, c⟩
  · show A.depth + 1 + n < _; omega
  · show A.units + 3 + 8 * n + 8 < _; omega
theorem fn_run {n : Nat} (IH : ∀ A, Room A n → CallOK B A (acall B.Gl fns iso W n)) {A : Around} (R : Room A (n + 1)) {k : Nat} {xs : List AV} {H H' : AH} {z : AV} (e : acall B.Gl fns iso W (n + 1) (.fn k) xs H = some (z, H')) {s : Shared} {G : St} {vs : List Value}
    (I : Inv B G H s.heap) (rs : RepL B G xs vs) {ar : Args} (hb : ∀ f, fns k = some f → ∀ o fd, B.h₀.get? (B.fnA k) = some o → o.data = .func fd → vs.length = f.np → BindsTo s fd ar (((f.names.take f.np).map toS).zip vs)) :
    Yields B A (call (.ref (B.fnA k)) ar.pos ar.kw) G H H' z s := by
  rw [acall_fn] at e
  refine via fun R_ k_ => ?_
  obtain ⟨f, e1, e2⟩ := abind_opt e
  obtain ⟨fd, T, body, C, hbody, hm, _⟩ := FO.all k f e1
  obtain ⟨o, ho, hd⟩ := C.obj
  refine k_ ?_
  have one : ∀ {G : St} {H H' : AH}, Inv B G H s.heap → RepL B G xs vs → arun B.Gl W (acall B.Gl fns iso W n) f xs H = some (z, H') → Yields B A (call (.ref (B.fnA k)) ar.pos ar.kw) G H H' z s := by
    intro G H H' I rs e2
    unfold arun at e2
    obtain ⟨F, e3, e4⟩ := abind_opt e2
    obtain ⟨⟨fl, F'⟩, H3, e5, e6⟩ := abind_some e4
    obtain ⟨hz, rfl⟩ := apure_some e6
    have hlen : vs.length = f.np := by rw [rs.len, (frame_some e3).1]
    refine call_top O C hbody e3 I rs (hb f e1 o fd ho hd hlen) (by have := R.depth; omega) (fun env henv => ?_) e5 hz.symm
    have R' := R.deeper O K Sr FO env
    have hk : env.scope.kind = .function := by rw [henv]; exact (scopeOk_iff C.sc).kind
    exact exs_ok ⟨O, K, Sr, IH _ R', R'.handled, by have := R'.units; omega⟩ W hk hm
  refine yields_apart e2 I (fun q_ e3 => one I rs e3) fun hb J e3 I0 => one I0 (RepL.free (G := G) (G' := ⟨G.g, []⟩) (fun q_ q_ e => e) _ _ _ (and_i hb).2 rs) e3
theorem made_inv {c : Cls} {mN : Str → Option Value} (CA : ClassAt B c mN) {G : St} {H : AH} {h : Heap} (I : Inv B G H h) :
    Inv B (G.add (h.objs.size + 1, some h.objs.size)) (H ++ [.inst c fun q_ => none]) (made2 h (B.clA c)) ∧ Step B Pure G h (G.add (h.objs.size + 1, some h.objs.size)) (made2 h (B.clA c)) := by
  have k : ∀ b o, h.get? b = some o → (made2 h (B.clA c)).get? b = some o := fun b o e => Heap.get?_push_of_some _ (Heap.get?_push_of_some _ e)
  have gd : (made2 h (B.clA c)).get? h.objs.size = some { cls := .type "dict", data := .dict #[] } := Heap.get?_push_of_some _ (Heap.get?_push_at rfl rfl)
  have gx : (made2 h (B.clA c)).get? (h.objs.size + 1) = some (insO (B.clA c) h.objs.size) := by
    have := Heap.get?_push_size (h.push ({ cls := .type "dict", data := .dict #[] } : Obj)) (o := insO (B.clA c) h.objs.size) rfl
    rw [Heap.size_push] at this
    exact this
  have I0 : Inv B G H (made2 h (B.clA c)) := I.keeps fun b o q_ e => k b o e
  have s0 : Step B Pure G h G (made2 h (B.clA c)) := Step.priv k
  have mem : ∀ a ∈ adrOf [(h.objs.size + 1, some h.objs.size)], a = h.objs.size + 1 ∨ a = h.objs.size := fun a ha => by
    simpa [adrOf] using ha
  have ge : ∀ a ∈ adrOf [(h.objs.size + 1, some h.objs.size)], h.objs.size ≤ a := fun a ha => by
    rcases mem a ha with e | e
    · rw [e]; exact Nat.le_succ _
    · rw [e]; exact Nat.le_refl _
  have st := s0.addObj (p := (h.objs.size + 1, some h.objs.size)) fun a ha => Heap.get?_none_of_le (ge a ha)
  refine ⟨I0.addObj (p := (h.objs.size + 1, some h.objs.size)) (ao := .inst c fun q_ => none) (fun a ha => ?_) ?_ ?_, st⟩
  · have hg := ge a ha
    refine ⟨I.gNew hg, fun m => absurd (I.lt m) (Nat.not_lt.mpr hg), fun m => absurd (I.tabLt m) (Nat.not_lt.mpr hg), ?_⟩
    rcases mem a ha with e | e
    · rw [e]; exact ⟨_, gx⟩
    · rw [e]; exact ⟨_, gd⟩
  · show [h.objs.size + 1, h.objs.size].Nodup
    simp
  · exact ⟨h.objs.size, fun q_ => none, rfl, gx, Heap.Ns1.of_empty ⟨_, #[], _, gd, rfl, fun e he => absurd he (by simp), fun q_ => rfl⟩, fun f => rfl, fun y hy => absurd rfl hy⟩
theorem Room.make {A : Around} {n : Nat} (r : Room A (n + 1)) (c : Addr) (vs : List Value) (kw : List (Str × Value)) : Room (A.under (.builtin "type.__call__" ⟨.ref c :: vs, kw⟩)) n := by
  obtain ⟨a, b, d⟩ := r
  refine ⟨?_, ?_, d⟩
  · show A.depth + 1 + n < _; omega
  · show A.units + 1 + 8 * n + 8 < _; omega
theorem cls_run {n : Nat} (IH : ∀ m, m < n + 1 → ∀ A, Room A m → CallOK B A (acall B.Gl fns iso W m)) {A : Around} (R : Room A (n + 1)) {c : Cls} {xs : List AV} {H H' : AH} {z : AV} (e : acall B.Gl fns iso W (n + 1) (.cls c) xs H = some (z, H')) {s : Shared} {G : St}
    (I : Inv B G H s.heap) {vs : List Value} {pos : List Value} {kw : List (Str × Value)} (rs : RepL B G (iniArgs c xs) vs)
    (hb : ∀ k f, B.Gl.ini c = some k → fns k = some f → ∀ o fd, B.h₀.get? (B.fnA k) = some o → o.data = .func fd → ∀ (s' : Shared) (G' : St) (H' : AH) (x : Value), Inv B G' H' s'.heap → (x :: vs).length = f.np →
      BindsTo s' fd ⟨x :: pos, kw⟩ (((f.names.take f.np).map toS).zip (x :: vs))) : Callee s.heap (.ref (B.clA c)) ∧ Yields B A (call (.ref (B.clA c)) pos kw) G H H' z s := by
  obtain ⟨k, hi, rfl, e2⟩ := acall_cls_some e
  have hc : c ≠ .fail := fun q => by
    subst q
    rw [FO.nofail] at hi; cases hi
  obtain ⟨mN, CA⟩ := K c hc
  obtain ⟨cr, hC, hN, hNt⟩ := CA.obj
  have hC' := I.sub _ _ (I.old _ _ hC CA.tab)
  refine ⟨.cls hC', fun Q E hQ => ?_⟩
  cases n with
  | zero => cases e2
  | succ n =>
    refine via fun R_ k_ => ?_
    obtain ⟨hin, o, ho, hot, hoc⟩ := CA.ini k hi
    obtain ⟨hp, g, d, t, os⟩ := s
    obtain ⟨I1, s1⟩ := made_inv O K Sr FO CA I
    refine k_ ?_
    have hx : Rep B (G.add (hp.objs.size + 1, some hp.objs.size)) (.obj H.length) (.ref (hp.objs.size + 1)) := ⟨(hp.objs.size + 1, some hp.objs.size), by
      show (G.al ++ [_])[H.length]? = _
      rw [← I.len, List.getElem?_append_right (Nat.le_refl _), Nat.sub_self]; rfl, rfl⟩
    refine call_cls_init objNew hC' (I.ns hNt hN) hin (I.sub _ _ (I.old _ _ ho hot)) hoc ?_
    have R1 := R.make O K Sr FO (B.clA c) pos kw
    refine fn_run O K Sr FO iso W (fun A RA => IH n (by omega) A RA) R1 e2 (s := ⟨made2 hp (B.clA c), g, d, t, os⟩) I1 (vs := .ref (hp.objs.size + 1) :: vs) ⟨_, _, rfl, hx, s1.repL rs⟩ (ar := ⟨.ref (hp.objs.size + 1) :: pos, kw⟩)
      (fun f hf o fd ho hd hl => hb k f hi hf o fd ho hd _ _ _ _ I1 hl) _ _ fun v G' h' tk' s2 I2 r2 => ⟨r2, ?_⟩
    have st := s1.trans s2
    exact hQ _ G' h' tk' st I2 (s2.rep hx)
omit O K Sr in
theorem fnObj {n : Nat} {k : Nat} {xs : List AV} {H H' : AH} {z : AV} (e : acall B.Gl fns iso W (n + 1) (.fn k) xs H = some (z, H')) : ∃ o fd, B.h₀.get? (B.fnA k) = some o ∧ B.fnA k ∉ B.tabP ∧ o.data = .func fd := by
  rw [acall_fn] at e
  refine via fun R_ k_ => ?_
  obtain ⟨f, e1, e2⟩ := abind_opt e
  obtain ⟨fd, T, body, C, _⟩ := FO.all k f e1
  obtain ⟨o, ho, hd⟩ := C.obj
  refine k_ ?_
  exact ⟨o, fd, ho, C.tab, hd⟩
omit O K Sr FO in
theorem parts {n : Nat} {c : Cls} {xs : List AV} {H H' : AH} {z : AV} (e : acall B.Gl fns iso W (n + 1) (.cls c) xs H = some (z, H')) : ∃ k f, B.Gl.ini c = some k ∧ fns k = some f := by
  obtain ⟨k, hi, _, e2⟩ := acall_cls_some e
  cases n with
  | zero => exact nos (α := AV × AH) e2
  | succ n =>
    rw [acall_fn] at e2
    obtain ⟨f, e3, _⟩ := abind_opt e2
    exact ⟨k, f, hi, e3⟩
theorem ok_fn {n : Nat} (IH : ∀ m, m < n + 1 → ∀ A, Room A m → CallOK B A (acall B.Gl fns iso W m)) {A : Around} (R : Room A (n + 1)) {s : Shared} {G : St} {H H' : AH} {k : Nat} {z : AV} {xs : List AV} {vs : List Value} (I : Inv B G H s.heap) (rs : RepL B G xs vs)
    (e : acall B.Gl fns iso W (n + 1) (.fn k) xs H = some (z, H')) : Callee s.heap (.ref (B.fnA k)) ∧ Yields B A (call (.ref (B.fnA k)) vs) G H H' z s := by
  refine via fun R_ k_ => ?_
  obtain ⟨o, fd, ho, ht, hd⟩ := fnObj FO iso W e
  refine k_ ?_
  refine ⟨.func (I.sub _ _ (I.old _ _ ho ht)) hd, ?_⟩
  exact fn_run O K Sr FO iso W (fun A RA => IH n (Nat.lt_succ_self n) A RA) R e I rs (ar := ⟨vs, []⟩) fun f hf o' fd' ho' hd' hl => by
    refine via fun R_ k_ => ?_
    obtain ⟨fd2, T, body, C, _, _, hbind⟩ := FO.all k f hf
    obtain ⟨o2, ho2, hd2⟩ := C.obj
    refine k_ ?_
    rw [ho'] at ho2; cases ho2
    rw [hd'] at hd2; cases hd2
    exact hbind s G H vs I hl
theorem ok_lim {n : Nat} (IH : ∀ m, m < n + 1 → ∀ A, Room A m → CallOK B A (acall B.Gl fns iso W m)) {A : Around} (R : Room A (n + 1)) {s : Shared} {G : St} {H H' : AH} {z : AV} (I : Inv B G H s.heap)
    (e : acall B.Gl fns iso W (n + 1) (.cls .limits) [] H = some (z, H')) : Callee s.heap (.ref (B.clA .limits)) ∧ Yields B A (call (.ref (B.clA .limits)) []) G H H' z s := by
  refine via fun R_ k_ => ?_
  obtain ⟨k, f, hi, hf⟩ := parts iso W e
  obtain ⟨fd, T, body, C, _⟩ := FO.all k f hf
  obtain ⟨o, ho, hd⟩ := C.obj
  obtain ⟨t1, t2, t3, t4, hb⟩ := FO.lim k _ hi hf o fd ho hd
  refine k_ ?_
  refine cls_run O K Sr FO iso W IH R e I (vs := [.int 40 t1, .int 200 t2, .int (10 ^ 9) t3, .int (10 ^ 6) t4]) (pos := []) ⟨_, _, rfl, ⟨_, rfl⟩, _, _, rfl, ⟨_, rfl⟩, _, _, rfl, ⟨_, rfl⟩, _, _, rfl, ⟨_, rfl⟩, rfl⟩ fun k' f' hik hf' o' fd' ho' hd' s' G' H'' x I' hlen => ?_
  rw [hi] at hik; cases hik
  rw [hf] at hf'; cases hf'
  rw [ho] at ho'; cases ho'
  rw [hd] at hd'; cases hd'
  exact (hb s' G' H'' x I').1
theorem ok_cls {n : Nat} (IH : ∀ m, m < n + 1 → ∀ A, Room A m → CallOK B A (acall B.Gl fns iso W m)) {A : Around} (R : Room A (n + 1)) {s : Shared} {G : St} {H H' : AH} {c : Cls} {z : AV} {xs : List AV} {vs : List Value} (hi : iniArgs c xs = xs) (I : Inv B G H s.heap) (rs : RepL B G xs vs)
    (e : acall B.Gl fns iso W (n + 1) (.cls c) xs H = some (z, H')) : Callee s.heap (.ref (B.clA c)) ∧ Yields B A (call (.ref (B.clA c)) vs) G H H' z s := by
  refine cls_run O K Sr FO iso W IH R e I (vs := vs) (by rw [hi]; exact rs) fun k f hik hf o fd ho hd s' G' H'' x I' hlen => ?_
  refine via fun R_ k_ => ?_
  obtain ⟨fd2, T, body, C, _, _, hbind⟩ := FO.all k f hf
  obtain ⟨o2, ho2, hd2⟩ := C.obj
  refine k_ ?_
  rw [ho] at ho2; cases ho2
  rw [hd] at hd2; cases hd2
  exact hbind s' G' H'' (x :: vs) I' hlen
theorem ok_kw {n : Nat} (IH : ∀ m, m < n + 1 → ∀ A, Room A m → CallOK B A (acall B.Gl fns iso W m)) {A : Around} (R : Room A (n + 1)) {s : Shared} {G : St} {H H' : AH} {z x : AV} {u : Value} (I : Inv B G H s.heap) (rx : Rep B G x u)
    (e : acall B.Gl fns iso W (n + 1) (.cls .limits) [x] H = some (z, H')) : Callee s.heap (.ref (B.clA .limits)) ∧ Yields B A (call (.ref (B.clA .limits)) [] [(toS [115, 116, 101, 112, 115], u)]) G H H' z s := by
  refine via fun R_ k_ => ?_
  obtain ⟨k, f, hi, hf⟩ := parts iso W e
  obtain ⟨fd, T, body, C, _⟩ := FO.all k f hf
  obtain ⟨o, ho, hd⟩ := C.obj
  obtain ⟨t1, t2, t3, t4, hb⟩ := FO.lim k _ hi hf o fd ho hd
  refine k_ ?_
  refine cls_run O K Sr FO iso W IH R e I (vs := [.int 40 t1, .int 200 t2, u, .int (10 ^ 6) t4]) (pos := []) ⟨_, _, rfl, ⟨_, rfl⟩, _, _, rfl, ⟨_, rfl⟩, _, _, rfl, rx, _, _, rfl, ⟨_, rfl⟩, rfl⟩ fun k' f' hik hf' o' fd' ho' hd' s' G' H'' x' I' hlen => ?_
  rw [hi] at hik; cases hik
  rw [hf] at hf'; cases hf'
  rw [ho] at ho'; cases ho'
  rw [hd] at hd'; cases hd'
  exact (hb s' G' H'' x' I').2 u
theorem acall_ok : ∀ n A, Room A n → CallOK B A (acall B.Gl fns iso W n) := fun n => by
  induction n using Nat.strongRecOn with
  | _ n IH =>
    intro A R
    cases n with
    | zero => exact ⟨fun s G H H' f z xs v vs hf I rf rs e => nos (α := AV × AH) e, fun s G H H' z x v u I rv rx e => nos (α := AV × AH) e, fun s G H H' k z xs I e => nos (α := AV × AH) e⟩
    | succ n =>
      refine ⟨fun s G H H' f z xs v vs hf I rf rs e => ?_, fun s G H H' z x v u I rv rx e => ?_, fun s G H H' k z xs I e => ?_⟩
      · rcases hf with ⟨k, rfl⟩ | ⟨c, rfl, hc⟩
        · rw [show v = _ from rf]
          exact ok_fn O K Sr FO iso W IH R I rs e
        · rw [show v = _ from rf]
          by_cases hl : c = .limits
          · subst hl
            have hx : xs = [] := Classical.byContradiction fun q => hc ⟨rfl, q⟩
            subst hx
            rw [show vs = [] from rs]
            exact ok_lim O K Sr FO iso W IH R I e
          · exact ok_cls O K Sr FO iso W IH R (by cases c <;> first | rfl | exact absurd rfl hl) I rs e
      · rw [show v = _ from rv]
        exact ok_kw O K Sr FO iso W IH R I rx e
      · refine via fun R_ k_ => ?_
        obtain ⟨o, fd, ho, ht, hd⟩ := fnObj FO iso W e
        refine k_ ?_
        exact ⟨o, fd, I.sub _ _ (I.old _ _ ho ht), hd⟩
end
end
section
set_option Elab.async false
set_option autoImplicit false
set_option linter.unusedVariables false
set_option maxRecDepth 100000
set_option backward.match.sparseCases false
set_option tactic.hygienic false
set_option genSizeOf false
set_option genInjectivity false
open PySem PySem.W PyProof.Rows PySem.Calls
noncomputable def isTy (s : String) : Value → Bool
  | .type t => decide (t = s)
  | _ => false
theorem isTy_i {s : String} {v : Value} (h : isTy s v = true) : v = .type s := by
  cases v with
  | type t => rw [show t = s from of_decide_eq_true h]
  | _ => exact bad h
noncomputable def seqOf (s : String) : Obj → Option (Array Value × Nat)
  | ⟨c, d, .seq vs n, sl⟩ => if isTy s c && d.isNone && sl.toList.isEmpty then some (vs, n) else none
  | _ => none
set_option tactic.hygienic true in
theorem seqOf_i {s : String} {o : Obj} {vs : Array Value} {n : Nat} (h : seqOf s o = some (vs, n)) : o = { cls := .type s, data := .seq vs n } := by
  obtain ⟨c, d, da, sl⟩ := o
  cases da with
  | seq ws m =>
    unfold seqOf at h
    dsimp only at h
    split at h
    · rename_i q
      cases h
      have q := and_i q
      have q1 := and_i q.1
      have e1 := isTy_i q1.1
      have e2 := Option.isNone_iff_eq_none.mp q1.2
      have e3 := List.isEmpty_iff.mp q.2
      subst e1; subst e2
      obtain ⟨l⟩ := sl
      cases (show l = [] from e3)
      rfl
    · cases h
  | _ => cases h
noncomputable def dctOf : Obj → Option (Array DictEntry × Nat)
  | ⟨c, d, .dict es n, sl⟩ => if isTy "dict" c && d.isNone && sl.toList.isEmpty then some (es, n) else none
  | _ => none
set_option tactic.hygienic true in
theorem dctOf_i {o : Obj} {es : Array DictEntry} {n : Nat} (h : dctOf o = some (es, n)) : o = dctO es n := by
  obtain ⟨c, d, da, sl⟩ := o
  cases da with
  | dict ws m =>
    unfold dctOf at h
    dsimp only at h
    split at h
    · rename_i q
      cases h
      have q := and_i q
      have q1 := and_i q.1
      have e1 := isTy_i q1.1
      have e2 := Option.isNone_iff_eq_none.mp q1.2
      have e3 := List.isEmpty_iff.mp q.2
      subst e1; subst e2
      obtain ⟨l⟩ := sl
      cases (show l = [] from e3)
      rfl
    · cases h
  | _ => cases h
section
variable (K : Frag) (fnA : Nat → Addr) (clA : Cls → Addr)
noncomputable def refA : Value → Option Addr
  | .ref a => some a
  | _ => none
noncomputable def isRef (a : Addr) (v : Value) : Bool := decide (refA v = some a)
theorem refA_i {v : Value} {a : Addr} (h : refA v = some a) : v = .ref a := by
  cases v <;> cases h
  rfl
noncomputable def repAll (f : AV → Value → Bool) : List AV → List Value → Bool
  | [], vs => on0 vs
  | x :: xs, vs => onC (fun v r => f x v && repAll f xs r) vs
noncomputable def isInt (i : Int) : Value → Bool
  | .int j _ => decide (i = j)
  | _ => false
theorem isInt_i {i : Int} {v : Value} (h : isInt i v = true) : ∃ t, v = .int i t := by
  cases v with
  | int j t => rw [show i = j from of_decide_eq_true h]; exact ⟨t, rfl⟩
  | _ => exact bad h
noncomputable def repEs (f : AV → Value → Bool) : List (Int × AV) → List DictEntry → Bool
  | [], vs => on0 vs
  | p :: xs, vs => onC (fun e r => isInt p.1 e.key && decide (e.hash = hashInt p.1) && f p.2 e.val && repEs f xs r) vs
noncomputable def repB : Nat → AV → Value → Bool
  | 0, _, _ => false
  | n + 1, x, v => match x with
    | .none => match v with
      | .none => true
      | _ => false
    | .int i => isInt i v
    | .str cs => match v with
      | .str s _ => isS cs s
      | _ => false
    | .tup xs => match (refA v).bind fun a => (K.lookup a).bind (seqOf "tuple") with
      | some p => repAll (repB n) xs p.1.toList
      | none => false
    | .lst xs => match (refA v).bind fun a => (K.lookup a).bind (seqOf "list") with
      | some p => repAll (repB n) xs p.1.toList
      | none => false
    | .dct kvs => match (refA v).bind fun a => if a == sysModules then none else (K.lookup a).bind dctOf with
      | some p => repEs (repB n) kvs p.1.toList
      | none => false
    | .fn k => isRef (fnA k) v
    | .cls c => isRef (clA c) v
    | _ => false
variable {K fnA clA}
set_option tactic.hygienic true in
theorem repB_i {B : Base} {G : St} (hg : ∀ a o, K.lookup a = some o → G.g a = some o) (hf : B.fnA = fnA) (hc : B.clA = clA) : ∀ (n : Nat) (x : AV) (v : Value), repB K fnA clA n x v = true → Rep B G x v
  | 0, _, _, h => bad h
  | n + 1, x, v, h => by
    have all : ∀ (xs : List AV) (vs : List Value), repAll (repB K fnA clA n) xs vs = true → RepL B G xs vs := fun xs => by
      induction xs with
      | nil => intro vs h; exact on0_i h
      | cons x xs ih =>
        intro vs h
        refine onC_e (f := _) h fun v r h => ?_
        have h := and_i h
        exact ⟨v, r, rfl, repB_i hg hf hc n x v h.1, ih _ h.2⟩
    have es : ∀ (xs : List (Int × AV)) (vs : List DictEntry), repEs (repB K fnA clA n) xs vs = true → RepD B G xs vs := fun xs => by
      induction xs with
      | nil => intro vs h; exact on0_i h
      | cons x xs ih =>
        intro vs h
        refine onC_e (f := _) h fun v r h => ?_
        have h := and_i h
        have g := and_i h.1
        have k := and_i g.1
        obtain ⟨t, ht⟩ := isInt_i k.1
        exact ⟨v, t, r, rfl, ht, of_decide_eq_true k.2, repB_i hg hf hc n _ _ g.2, ih _ h.2⟩
    cases x with
    | none =>
      cases v with
      | none => exact rfl
      | _ => exact bad h
    | int i => exact isInt_i h
    | str cs =>
      cases v with
      | str s t => exact ⟨t, by rw [isS_eq h]⟩
      | _ => exact bad h
    | tup xs =>
      unfold repB at h
      dsimp only at h
      split at h
      · rename_i p hp
        obtain ⟨a, ha, hp⟩ := Option.bind_eq_some_iff.mp hp
        obtain ⟨o, ho, hp⟩ := Option.bind_eq_some_iff.mp hp
        have e := seqOf_i (vs := p.1) (n := p.2) hp
        subst e
        exact ⟨a, p.1, p.2, refA_i ha, hg _ _ ho, all _ _ h⟩
      · exact bad h
    | lst xs =>
      unfold repB at h
      dsimp only at h
      split at h
      · rename_i p hp
        obtain ⟨a, ha, hp⟩ := Option.bind_eq_some_iff.mp hp
        obtain ⟨o, ho, hp⟩ := Option.bind_eq_some_iff.mp hp
        have e := seqOf_i (vs := p.1) (n := p.2) hp
        subst e
        exact ⟨a, p.1, p.2, refA_i ha, hg _ _ ho, all _ _ h⟩
      · exact bad h
    | dct kvs =>
      unfold repB at h
      dsimp only at h
      split at h
      · rename_i p hp
        obtain ⟨a, ha, hp⟩ := Option.bind_eq_some_iff.mp hp
        cases q : (a == sysModules) with
        | true => rw [q] at hp; cases hp
        | false =>
          rw [q] at hp
          obtain ⟨o, ho, hp⟩ := Option.bind_eq_some_iff.mp hp
          have e := dctOf_i (es := p.1) (n := p.2) hp
          subst e
          exact ⟨a, p.1, p.2, refA_i ha, hg _ _ ho, q, es _ _ h⟩
      · exact bad h
    | fn k =>
      have := refA_i (of_decide_eq_true h)
      show v = _
      rw [hf]; exact this
    | cls c =>
      have := refA_i (of_decide_eq_true h)
      show v = _
      rw [hc]; exact this
    | _ => exact bad h
end
end
section
set_option Elab.async false
set_option autoImplicit false
set_option linter.unusedVariables false
set_option maxRecDepth 100000
set_option backward.match.sparseCases false
set_option tactic.hygienic false
set_option genSizeOf false
set_option genInjectivity false
open PySem PySem.W PyProof.Rows PySem.Calls
noncomputable def isStrV : Value → Bool
  | .str _ _ => true
  | _ => false
noncomputable def dictAt (K : Frag) (a : Addr) : Option (Array DictEntry) := (K.lookup a).bind fun o => match o.data with
  | .dict es _ => some es
  | _ => none
noncomputable def nsK (K : Frag) (a : Addr) (x : Str) : Option Value := (dictAt K a).bind fun es => nsFind es x
noncomputable def nsB (K : Frag) (a : Addr) : Bool := onS (fun es : Array DictEntry => es.toList.all fun e => isStrV e.key) (dictAt K a)
theorem nsB_i {K : Frag} {h : Heap} (X : K.In h) {a : Addr} (e : nsB K a = true) : h.Ns a (nsK K a) := by
  refine via fun R_ k_ => ?_
  obtain ⟨es, q, e⟩ := onS_i e
  obtain ⟨o, ho, hd⟩ := Option.bind_eq_some_iff.mp q
  have hd : ∃ n, o.data = .dict es n := by
    cases r : o.data with
    | dict es' n => rw [r] at hd; cases hd; exact ⟨n, rfl⟩
    | _ => rw [r] at hd; cases hd
  obtain ⟨n, hd⟩ := hd
  refine k_ ?_
  refine ⟨o, es, n, X _ _ ho, hd, fun e' he => ?_, fun x => ?_⟩
  · have := List.all_eq_true.mp e e' (Array.mem_toList_iff.mpr he)
    cases r : e'.key with
    | str s t => exact ⟨s, t, rfl⟩
    | _ => rw [r] at this; exact bad this
  · unfold nsK
    rw [q]; rfl
noncomputable def fdOf (o : Obj) : Option FuncData := match o.data with
  | .func fd => some fd
  | _ => none
theorem fdOf_i {o : Obj} {fd : FuncData} (h : fdOf o = some fd) : o.data = .func fd := by
  unfold fdOf at h
  cases r : o.data with
  | func f => rw [r] at h; cases h; rfl
  | _ => rw [r] at h; cases h
noncomputable def fdAt (K : Frag) (a : Addr) : Option FuncData := (K.lookup a).bind fdOf
noncomputable def isQ (q : Str) : Value → Bool
  | .str s _ => decide (s = q)
  | _ => false
noncomputable def fieldsOf (o : Obj) : Option (Array Value) := match o.data with
  | .fields fs => some fs
  | _ => none
noncomputable def codeB (K : Frag) (fd : FuncData) : Bool := onS (fun fs : Array Value => onS (isQ fd.qualname) fs[1]?) ((refA fd.code).bind fun c => (K.lookup c).bind fieldsOf)
theorem codeB_i {K : Frag} {fd : FuncData} (h : codeB K fd = true) : ∃ c oc fs t, fd.code = .ref c ∧ K.lookup c = some oc ∧ oc.data = .fields fs ∧ fs[1]? = some (.str fd.qualname t) := by
  refine via fun R_ k_ => ?_
  obtain ⟨fs, q, h⟩ := onS_i h
  obtain ⟨c, hc, q⟩ := Option.bind_eq_some_iff.mp q
  obtain ⟨o, ho, q⟩ := Option.bind_eq_some_iff.mp q
  obtain ⟨v, hv, h⟩ := onS_i h
  refine k_ ?_
  have e : o.data = .fields fs := by
    unfold fieldsOf at q
    cases r : o.data with
    | fields f => rw [r] at q; cases q; rfl
    | _ => rw [r] at q; cases q
  cases v with
  | str s t => exact ⟨c, o, fs, t, refA_i hc, ho, e, by rw [hv, show s = _ from of_decide_eq_true h]⟩
  | _ => exact bad h
noncomputable def stmtsOf : FuncBody → Option (List Stmt)
  | .stmts b => some b
  | _ => none
theorem stmtsOf_i {b : FuncBody} {ss : List Stmt} (h : stmtsOf b = some ss) : b = .stmts ss := by
  cases b <;> cases h
  rfl
noncomputable def coreB (K : Frag) (T : Tabs) (f : IFn) (fd : FuncData) : Bool :=
  fd.closure.isEmpty && decide (fd.globals = mainGlobals) && decide (fd.builtins = builtinsNs) && decide (f.np ≤ f.names.length) && scopeOk fd.scope f.names && fd.scope.names.all (fun p => p.2 != .free) &&
  (f.names.take f.np).all (fun n => isKind fd.scope (toS n) .local || isKind fd.scope (toS n) .cell) && codeB K fd && onS (fun b => mSs T fd.scope f.names f.body b) (stmtsOf fd.body)
theorem coreB_i {K : Frag} {B : Base} (X : K.In B.h₀) {a : Addr} {f : IFn} {fd : FuncData} (e : fdAt K a = some fd) (h : coreB K B.T f fd = true) : FnCore B a fd B.T f.names f.np ∧ ∃ b, fd.body = .stmts b ∧ mSs B.T fd.scope f.names f.body b = true := by
  refine via fun R_ k_ => ?_
  obtain ⟨o, ho, hd⟩ := Option.bind_eq_some_iff.mp e
  have h := and_i h
  obtain ⟨b, hb, hm⟩ := onS_i h.2
  have h := and_i h.1
  obtain ⟨c, oc, fs, t, c1, c2, c3, c4⟩ := codeB_i h.2
  refine k_ ?_
  have h := and_i h.1
  have h7 := h.2
  have h := and_i h.1
  have h6 := h.2
  have h := and_i h.1
  have h5 := h.2
  have h := and_i h.1
  have h4 := of_decide_eq_true h.2
  have h := and_i h.1
  have h3 := of_decide_eq_true h.2
  have h := and_i h.1
  refine ⟨⟨⟨o, X _ _ ho, fdOf_i hd⟩, (fun m => nomatch m), rfl, rfl, List.isEmpty_iff.mp h.1, of_decide_eq_true h.2, h3, h4, h5, fun p hp => ?_, fun n hn => ?_, ⟨c, oc, fs, t, c1, X _ _ c2, (fun m => nomatch m), c3, c4⟩⟩, b, stmtsOf_i hb, hm⟩
  · exact bne_iff_ne.mp (List.all_eq_true.mp h6 p hp)
  · exact (Bool.or_eq_true _ _).mp (List.all_eq_true.mp h7 n hn)
noncomputable def isNoneV : Value → Bool
  | .none => true
  | _ => false
theorem isNoneV_i {v : Value} (h : isNoneV v = true) : v = .none := by
  cases v <;> first | rfl | exact bad h
noncomputable def plainB (f : IFn) (fd : FuncData) : Bool := plainArgs fd.params (f.names.take f.np) && isNoneV fd.defaults && isNoneV fd.kwdefaults
noncomputable def fnB (K : Frag) (T : Tabs) (f : IFn) (a : Addr) : Bool := onS (fun fd => coreB K T f fd && plainB f fd) (fdAt K a)
theorem fnB_i {K : Frag} {B : Base} (X : K.In B.h₀) {k : Nat} {f : IFn} (h : fnB K B.T f (B.fnA k) = true) : FnOK B k f := by
  refine via fun R_ k_ => ?_
  obtain ⟨fd, e, h⟩ := onS_i h
  have h := and_i h
  obtain ⟨C, b, hb, hm⟩ := coreB_i X e h.1
  refine k_ ?_
  have g := and_i h.2
  have g1 := and_i g.1
  refine ⟨fd, B.T, b, C, hb, hm, fun s G H vs q_ hl => BindsTo.of_eq (bind_plain g1.1 (isNoneV_i g1.2) (isNoneV_i g.2) ?_ ?_)⟩
  · rw [hl, List.length_take]; have := C.hnp; omega
  · exact (scopeOk_iff C.sc).nod.sublist (List.take_sublist _ _)
end
section
set_option Elab.async false
set_option autoImplicit false
set_option linter.unusedVariables false
set_option maxRecDepth 100000
set_option backward.match.sparseCases false
set_option tactic.hygienic false
set_option genSizeOf false
set_option genInjectivity false
open PySem PySem.W PyProof.Rows PySem.Calls
noncomputable abbrev limNames : List (List Nat) := [[115, 101, 108, 102], [100, 101, 112, 116, 104], [102, 114, 97, 109, 101, 115], [115, 116, 101, 112, 115], [116, 101, 120, 116]]
noncomputable def limItems (K : Frag) (a : Addr) : List Value := (((fdAt K a).bind fun fd => (refA fd.defaults).bind fun T => (K.lookup T).bind (seqOf "tuple")).map fun p => p.1.toList).getD []
noncomputable def bindK (K : Frag) (S : Setting) (a : Addr) (ar : Args) : Option (List (Str × Value)) := (fdAt K a).bind fun fd => peek K S (bindArgs fd ar)
structure LimOk (K : Frag) (a : Addr) : Prop where
  items : repAll (fun x v => onS (fun i => isInt i v) (toInt x)) [.int 40, .int 200, .int (10 ^ 9), .int (10 ^ 6)] (limItems K a) = true
  five : ∀ S x u1 u2 u3 u4, bindK K S a ⟨[x, u1, u2, u3, u4], []⟩ = some ((limNames.map toS).zip [x, u1, u2, u3, u4])
  one : ∀ S x, bindK K S a ⟨[x], []⟩ = some ((limNames.map toS).zip (x :: limItems K a))
  kw : ∀ S x u, bindK K S a ⟨[x], [(toS [115, 116, 101, 112, 115], u)]⟩ = some ((limNames.map toS).zip (x :: (limItems K a).set 2 u))
theorem four_ints {i j k l : Int} {vs : List Value} (h : repAll (fun x v => onS (fun i => isInt i v) (toInt x)) [.int i, .int j, .int k, .int l] vs = true) : ∃ a b c d, vs = [.int i a, .int j b, .int k c, .int l d] := by
  refine onC_e (f := _) h fun v1 r1 h1 => ?_
  have k1 := and_i h1
  obtain ⟨a, rfl⟩ := isInt_i (i := i) k1.1
  refine onC_e (f := _) k1.2 fun v2 r2 h2 => ?_
  have k2 := and_i h2
  obtain ⟨b, rfl⟩ := isInt_i (i := j) k2.1
  refine onC_e (f := _) k2.2 fun v3 r3 h3 => ?_
  have k3 := and_i h3
  obtain ⟨c, rfl⟩ := isInt_i (i := k) k3.1
  refine onC_e (f := _) k3.2 fun v4 r4 h4 => ?_
  have k4 := and_i h4
  obtain ⟨d, rfl⟩ := isInt_i (i := l) k4.1
  cases on0_i (show on0 r4 = true from k4.2)
  exact ⟨a, b, c, d, rfl⟩
theorem bindK_i {K : Frag} {a : Addr} {fd : FuncData} {ar : Args} {bs : List (Str × Value)} (hf : fdAt K a = some fd) (h : ∀ S : Setting, bindK K S a ar = some bs) {s : Shared} (X : K.In s.heap) : BindsTo s fd ar bs := fun M A E Q hQ => by
  have h := h ⟨M.prog, M.w.params⟩
  unfold bindK at h
  rw [hf] at h
  exact (Looks.of_peek X h).here hQ
theorem len_cons {α : Type} {l : List α} {n : Nat} (h : l.length = n + 1) : ∃ a r, l = a :: r ∧ r.length = n := by
  cases l with
  | nil => cases h
  | cons a r => exact ⟨a, r, rfl, Nat.succ.inj h⟩
theorem five_len {vs : List Value} (h : vs.length = 5) : ∃ a b c d e, vs = [a, b, c, d, e] := by
  obtain ⟨a, r1, rfl, h1⟩ := len_cons h
  obtain ⟨b, r2, rfl, h2⟩ := len_cons h1
  obtain ⟨c, r3, rfl, h3⟩ := len_cons h2
  obtain ⟨d, r4, rfl, h4⟩ := len_cons h3
  obtain ⟨e, r5, rfl, h5⟩ := len_cons h4
  cases List.length_eq_zero_iff.mp h5
  exact ⟨a, b, c, d, e, rfl⟩
theorem lim_bind {K : Frag} {a : Addr} (L : LimOk K a) {fd : FuncData} (hf : fdAt K a = some fd) : ∃ t1 t2 t3 t4, ∀ (s : Shared), K.In s.heap →
    (∀ vs, vs.length = 5 → BindsTo s fd ⟨vs, []⟩ ((limNames.map toS).zip vs)) ∧
    (∀ x, BindsTo s fd ⟨[x], []⟩ ((limNames.map toS).zip [x, .int 40 t1, .int 200 t2, .int (10 ^ 9) t3, .int (10 ^ 6) t4])) ∧
    ∀ x u, BindsTo s fd ⟨[x], [(toS [115, 116, 101, 112, 115], u)]⟩ ((limNames.map toS).zip [x, .int 40 t1, .int 200 t2, u, .int (10 ^ 6) t4]) := by
  refine via fun R_ k_ => ?_
  obtain ⟨t1, t2, t3, t4, e⟩ := four_ints L.items
  refine k_ ?_
  refine ⟨t1, t2, t3, t4, fun s X => ⟨fun vs hv => ?_, fun x => ?_, fun x u => ?_⟩⟩
  · obtain ⟨b, c, d, f, g, rfl⟩ := five_len hv
    exact bindK_i hf (fun S => L.five S b c d f g) X
  · exact bindK_i hf (fun S => by rw [L.one S x, e]) X
  · exact bindK_i hf (fun S => by rw [L.kw S x u, e]; rfl) X
end
section
set_option Elab.async false
set_option autoImplicit false
set_option linter.unusedVariables false
set_option maxRecDepth 100000
set_option backward.match.sparseCases false
set_option tactic.hygienic false
set_option genSizeOf false
set_option genInjectivity false
open PySem PySem.W PyProof.Rows PySem.Calls
noncomputable def mroB (a : Addr) : List Value → Bool := on2 fun x y => isRef a x && isTy "object" y
noncomputable def isBi (s : String) : Value → Bool
  | .builtin t => decide (t = s)
  | _ => false
theorem ite_i {α : Type} {c : Bool} {a b : α} (h : (if c = true then some a else none) = some b) : c = true ∧ a = b := by
  cases c with
  | true => exact ⟨rfl, Option.some.inj h⟩
  | false => cases h
noncomputable def slotsB (t : String) : List (Option Value) → Bool := onC fun q_ => onC fun q_ => onC fun q_ => onC fun q_ => onC fun k => onC fun q_ l => onS (isBi t) k && on0 l
theorem isBi_i {t : String} {v : Value} (h : isBi t v = true) : v = .builtin t := by
  cases v with
  | builtin u => exact congrArg _ (of_decide_eq_true h)
  | _ => exact bad h
structure Slots5 where
  k0 : Option Value
  k1 : Option Value
  k2 : Option Value
  k3 : Option Value
  k5 : Option Value
theorem slots_i {t : String} {l : List (Option Value)} (h : slotsB t l = true) : ∃ k : Slots5, l = [k.k0, k.k1, k.k2, k.k3, some (.builtin t), k.k5] := by
  refine onC_e (f := _) h fun k0 l1 h1 => ?_
  refine onC_e (f := _) h1 fun k1 l2 h2 => ?_
  refine onC_e (f := _) h2 fun k2 l3 h3 => ?_
  refine onC_e (f := _) h3 fun k3 l4 h4 => ?_
  refine onC_e (f := _) h4 fun k4 l5 h5 => ?_
  refine onC_e (f := _) h5 fun k5 l6 h6 => ?_
  have h6 := and_i h6
  refine onS_e h6.1 fun v e => ?_
  rw [on0_i h6.2, isBi_i e]
  exact ⟨⟨k0, k1, k2, k3, k5⟩, rfl⟩
noncomputable def clsB0 (mro : List Value → Bool) (t : String) (o : Obj) (cd : ClassData) : Bool := isTy "type" o.cls && mro cd.mro && cd.hasDict && !cd.hasDel && slotsB t o.slots.toList
theorem obj4 {o : Obj} {c : Value} {x : Data} {l : List (Option Value)} (h1 : o.cls = c) (h2 : o.data = x) (h3 : o.slots.toList = l) : o = { cls := c, dict := o.dict, data := x, slots := ⟨l⟩ } := by
  cases h1; cases h2; cases h3; rfl
theorem cd3 {cd : ClassData} {m : List Value} (h1 : cd.mro = m) (h2 : cd.hasDict = true) (h3 : cd.hasDel = false) : cd = { cd with mro := m, hasDict := true, hasDel := false } := by
  cases h1; rw [← h2, ← h3]
theorem clsB0_i {mro : List Value → Bool} {t : String} {o : Obj} {cd : ClassData} (hd : o.data = .cls cd) (h : clsB0 mro t o cd = true) : ∃ cr : CR, cr.N = cd.ns ∧ cr.ab = cd.abstract ∧ ∀ a bm, (mro cd.mro = true → cd.mro = .ref a :: bm) → o = cr.obj a bm cr.ab t := by
  have h := and_i h
  obtain ⟨k, hs⟩ := slots_i h.2
  have h := and_i h.1
  have e5 := not_i h.2
  have h := and_i h.1
  have e3 := h.2
  have h := and_i h.1
  have e1 := isTy_i h.1
  exact ⟨⟨cd.name, cd.qualname, cd.ns, cd.bases, cd.slotNames, cd.subclasses, cd.abstract, cd.collection, o.dict, k.k0, k.k1, k.k2, k.k3, k.k5⟩, rfl, rfl, fun a bm hm => obj4 e1 (hd.trans (congrArg Data.cls (cd3 (hm h.2) e3 e5))) hs⟩
noncomputable def clsOf (a : Addr) (o : Obj) : Option Addr := match o.data with
  | .cls cd => if clsB0 (mroB a) "object.__new__" o cd && !cd.abstract then some cd.ns else none
  | _ => none
theorem clsOf_i {a N : Addr} {o : Obj} (h : clsOf a o = some N) : ∃ cr : CR, cr.N = N ∧ o = cr.obj a [.type "object"] false "object.__new__" := by
  unfold clsOf at h
  cases hd : o.data with
  | cls cd =>
    rw [hd] at h
    refine via fun R_ k_ => ?_
    obtain ⟨q, e⟩ := ite_i h
    have q := and_i q
    obtain ⟨cr, h1, h2, h3⟩ := clsB0_i hd q.1
    refine k_ ?_
    refine ⟨cr, h1.trans e, ?_⟩
    rw [← not_i q.2, ← h2]
    refine h3 a _ fun m => ?_
    obtain ⟨x, y, e2, g⟩ := on2_i (f := _) m
    have g := and_i g
    rw [e2, isTy_i g.2, refA_i (of_decide_eq_true g.1)]
  | _ => rw [hd] at h; cases h
noncomputable def isFn (K : Frag) (a : Addr) : Bool := onS (fun o : Obj => isTy "function" o.cls) (K.lookup a)
noncomputable def clsB (K : Frag) (T : Tabs) (fnA : Nat → Addr) (a : Addr) (ini : Option Nat) (mth : List (Nat × Nat)) : Bool := onS (fun N : Addr => nsB K N &&
  (nsK K N "__getattribute__").isNone && (nsK K N "__getattr__").isNone && (nsK K N "__setattr__").isNone && allFlds.all (fun f => (nsK K N f.name).isNone) &&
  onS (fun k => onS (isRef (fnA k)) (nsK K N "__init__") && isFn K (fnA k)) ini &&
  mth.all (fun p => onS (fun n => onS (isRef (fnA p.2)) (nsK K N (toS n)) && allFlds.all (fun f => decide (f.name ≠ toS n))) T.mnames[p.1]? && isFn K (fnA p.2))) ((K.lookup a).bind (clsOf a))
theorem isFn_i {K : Frag} {h : Heap} (X : K.In h) {a : Addr} (e : isFn K a = true) : ∃ o, h.get? a = some o ∧ o.cls = .type "function" := by
  obtain ⟨o, ho, e⟩ := onS_i e
  exact ⟨o, X _ _ ho, isTy_i e⟩
theorem refS_i {v : Option Value} {a : Addr} (h : onS (isRef a) v = true) : v = some (.ref a) := by
  obtain ⟨u, hu, h⟩ := onS_i h
  rw [hu, refA_i (of_decide_eq_true h)]
theorem clsB_i {K : Frag} {B : Base} (X : K.In B.h₀) {c : Cls} {k : Nat} {mth : List (Nat × Nat)} (h : clsB K B.T B.fnA (B.clA c) (some k) mth = true) (hi : ∀ j, B.Gl.ini c = some j → j = k) (hm : ∀ i j, B.Gl.mth c i = some j → (i, j) ∈ mth)
    (hs : ∀ n ∈ B.T.mnames, ∃ y, typeLookup (.type "object") (toS n) = pure y) : ∃ mN, ClassAt B c mN := by
  obtain ⟨N, hN, h⟩ := onS_i h
  obtain ⟨o, ho, hc⟩ := Option.bind_eq_some_iff.mp hN
  obtain ⟨cr, rfl, rfl⟩ := clsOf_i hc
  have h := and_i h
  have g7 := List.all_eq_true.mp h.2
  have h := and_i h.1
  obtain ⟨k', hk', h6⟩ := onS_i h.2
  cases hk'
  have g6 := and_i h6
  have h := and_i h.1
  have g5 := List.all_eq_true.mp h.2
  have h := and_i h.1
  have g4 := Option.isNone_iff_eq_none.mp h.2
  have h := and_i h.1
  have g3 := Option.isNone_iff_eq_none.mp h.2
  have h := and_i h.1
  have g2 := Option.isNone_iff_eq_none.mp h.2
  refine ⟨nsK K cr.N, ⟨cr, X _ _ ho, nsB_i X h.1, (fun m => nomatch m)⟩, (fun m => nomatch m), g2, g3, g4, fun f => Option.isNone_iff_eq_none.mp (g5 f (mem_flds f)), fun j hj => ?_, fun i j hj => ?_⟩
  · cases hi j hj
    obtain ⟨o, e1, e2⟩ := isFn_i X g6.2
    exact ⟨refS_i g6.1, o, e1, (fun m => nomatch m), e2⟩
  · have := and_i (g7 _ (hm i j hj))
    refine via fun R_ k_ => ?_
    obtain ⟨n, hn, g⟩ := onS_i this.1
    have g := and_i g
    obtain ⟨o, e1, e2⟩ := isFn_i X this.2
    obtain ⟨y, hy⟩ := hs n (List.mem_of_getElem? hn)
    refine k_ ?_
    exact ⟨n, y, hn, refS_i g.1, hy, fun f => of_decide_eq_true (List.all_eq_true.mp g.2 f (mem_flds f)), o, e1, (fun m => nomatch m), e2⟩
noncomputable def Bi.nm : Bi → List Nat
  | .len => [108, 101, 110]
  | .abs => [97, 98, 115]
  | .int => [105, 110, 116]
  | .ord => [111, 114, 100]
  | .chr => [99, 104, 114]
  | .any => [97, 110, 121]
  | .isinstance => [105, 115, 105, 110, 115, 116, 97, 110, 99, 101]
  | .list => [108, 105, 115, 116]
  | .tuple => [116, 117, 112, 108, 101]
  | .range => [114, 97, 110, 103, 101]
  | .zip => [122, 105, 112]
  | .min => [109, 105, 110]
theorem boot_bi (b : Bi) : bootBuiltins (toS b.nm) = some b.val := by cases b <;> kernel_rfl
theorem bi_name (b : Bi) : toS b.nm ≠ "__name__" := by cases b <;> decide +kernel
noncomputable def toBi : AV → Option Bi
  | .bi b => some b
  | _ => none
theorem toBi_i {v : AV} {b : Bi} (h : toBi v = some b) : v = .bi b := by
  cases v <;> cases h
  rfl
noncomputable def valB (K : Frag) (fnA : Nat → Addr) (clA : Cls → Addr) (n : List Nat) (v : AV) : Bool := @Option.rec _ (fun q_ => Bool) (onS (repB K fnA clA 8 v) (nsK K mainGlobals (toS n))) (fun b => (nsK K mainGlobals (toS n)).isNone && decide (n = b.nm)) (toBi v)
theorem valB_i {K : Frag} {B : Base} (X : K.In B.h₀) {n : List Nat} {v : AV} (h : valB K B.fnA B.clA n v = true) (hg : B.mg = nsK K mainGlobals) (hb : ∀ x : Str, x ≠ "__name__" → B.mb x = bootBuiltins x) :
    ∃ u, (B.mg (toS n) = some u ∨ (B.mg (toS n) = none ∧ B.mb (toS n) = some u)) ∧ ∀ G : St, (∀ b o, B.h₀.get? b = some o → b ∉ B.tabP → G.g b = some o) → Rep B G v u := by
  unfold valB at h
  cases q : toBi v with
  | none =>
    rw [q] at h
    obtain ⟨u, hu, h⟩ := onS_i (f := _) h
    exact ⟨u, .inl (by rw [hg]; exact hu), fun G hG => repB_i (fun a o e => hG a o (X _ _ e) (fun m => nomatch m)) rfl rfl _ _ _ h⟩
  | some b =>
    rw [q] at h
    have h := and_i h
    have e := of_decide_eq_true h.2
    rw [toBi_i q]
    subst e
    exact ⟨b.val, .inr ⟨by rw [hg]; exact Option.isNone_iff_eq_none.mp h.1, by rw [hb _ (bi_name b), boot_bi]⟩, fun G q_ => rfl⟩
end
section
set_option Elab.async false
set_option autoImplicit false
set_option linter.unusedVariables false
set_option maxRecDepth 100000
set_option backward.match.sparseCases false
set_option tactic.hygienic false
set_option genSizeOf false
set_option genInjectivity false
open PySem PySem.W PyProof.Rows PySem.Calls
inductive Fly (base : Heap) (e C d : Addr) (f : Option Addr) (h : Heap) : Prop
  | mk (oe : Obj) (vs : Array Value) (hd : Value) (stay : base.StaysIn h) (en : base.get? e = none) (he : h.get? e = some oe) (hc : oe.cls = .ref C) (hdc : oe.dict = some d) (hdt : oe.data = .fields vs) (h1 : vs[1]? = some hd)
    (head : (hd = .none ∧ f = none) ∨ ∃ T oT ts, hd = .ref T ∧ base.get? T = none ∧ T ≠ e ∧ h.get? T = some oT ∧ oT.data = .fields ts ∧ ts[3]? = some (f.elim Value.none fun f => rawInt f))
noncomputable def UpSl (h h' : Heap) : Prop := ∀ b o, h.get? b = some o → (∀ vs, o.data ≠ .fields vs) → ∃ sl, h'.get? b = some { o with slots := sl }
theorem UpSl.trans {h h' h'' : Heap} (x : UpSl h h') (y : UpSl h' h'') : UpSl h h'' := fun b o e n => by
  obtain ⟨sl, q⟩ := x b o e n
  obtain ⟨sl', q'⟩ := y b _ q n
  exact ⟨sl', q'⟩
theorem UpSl.fun {base h h' : Heap} {l : List Env} (x : UpSl h h') (f : h.FunFrames base l) : h'.FunFrames base l := f.of_keeps fun b o hb hnf => (x b o hb hnf).elim fun sl q => ⟨_, q, rfl⟩
section
variable {M : Model} {A : Around} {E : Value → Shared → Prop} {s : Shared}
theorem entry_at {base : Heap} {env : Env} {outer : List Env} {L e C d : Addr} {oe : Obj} {vs : Array Value} {head : Value} {hadNext : Bool} {Q : Unit → Shared → Prop}
    (hfr : A.frames = some (env :: outer)) (hl : s.heap.FunFrames base (env :: outer)) (hf : env.frame = some L)
    (he : s.heap.get? e = some oe) (hc : oe.cls = .ref C) (hdc : oe.dict = some d) (hkb : base.StaysIn s.heap) (hen : base.get? e = none) (hd : oe.data = .fields vs) (hsz : 1 < vs.size)
    (h : ∀ h', Fly base e C d (some L) h' → UpSl s.heap h' → Q () { s with heap := h' }) :
    wpAny M A (do let a ← PySem.frameOf env; let pl ← entryPlaceOf L hadNext; let b ← EntryCells.newEntry head a .none (rawInt L) .none pl; setField (.ref e) 1 b) Q E s := by
  have hene : e ∉ (env :: outer).filterMap (·.frame) := fun hm => by
    obtain ⟨_, o, ho, hnf⟩ := hl.mem hm
    rw [he] at ho; cases ho; exact hnf vs hd
  refine wpAny_bind (wpAny_frameOf_fun hfr hl hf fun h₁ hs₁ => ?_)
  refine wpAny_bind (wpAny_entryPlaceOf fun pl hpl => ?_)
  unfold EntryCells.newEntry newFields
  refine wpAny_bind (wpAny_newObj_type ?_ (hpl.sizeOk5 _ _ _ _ _))
  generalize hnew : ({ cls := .type "traceback", dict := none, data := .fields ([head, .ref L, .none, rawInt L, .none] ++ (if pl.isEmpty then List.replicate 6 Value.none else pl)).toArray } : Obj) = new
  have hnd : new.data = .fields ([head, .ref L, .none, rawInt L, .none] ++ (if pl.isEmpty then List.replicate 6 Value.none else pl)).toArray := by rw [← hnew]
  have hnf : new.isFreed = false := Obj.isFreed_of_fields hnd
  have he₁ : h₁.get? e = some oe := (hs₁.2.1 e hene).trans he
  have kb₁ : base.StaysIn h₁ := fun b o hbo => (hs₁.2.1 b fun hm => by rw [(hl.mem hm).1] at hbo; cases hbo).trans (hkb b o hbo)
  have he₂ := Heap.get?_push_of_some (h := h₁) new he₁
  refine wpAny_setField he₂ hd hsz (h _ ?_ ?_)
  · have hTe : h₁.objs.size ≠ e := Nat.ne_of_gt (Heap.lt_size he₁)
    have hd₃ := Obj.data_mapFields hd (·.setIfInBounds 1 (Value.ref h₁.objs.size))
    have he₃ := Heap.get?_update_self (Obj.mapFields (·.setIfInBounds 1 (Value.ref h₁.objs.size))) he₂ (Obj.isFreed_of_fields hd₃)
    have hT₃ := (Heap.get?_update_other (h₁.push new) (Obj.mapFields (·.setIfInBounds 1 (Value.ref h₁.objs.size))) (Ne.symm hTe)).trans (Heap.get?_push_size h₁ hnf)
    refine .mk _ _ _ (fun b o hbo => ?_) hen he₃ ((Obj.cls_mapFields _ _).trans hc) ?_ hd₃ (by simp [hsz]) (.inr ⟨h₁.objs.size, _, _, rfl, kb₁.fresh, hTe, hT₃, hnd, rfl⟩)
    · rw [Heap.get?_update_other _ _ (fun q => by rw [← q, hen] at hbo; cases hbo)]
      exact Heap.get?_push_of_some _ (kb₁ b o hbo)
    · obtain ⟨c, dd, da, sl⟩ := oe
      cases hd
      exact hdc
  · intro b o hb hnf
    obtain ⟨sl, hs⟩ := hs₁.2.2 b o hb
    refine ⟨sl, ?_⟩
    rw [Heap.get?_update_other _ _ (fun q => by rw [← q, he] at hb; cases hb; exact hnf vs hd)]
    exact Heap.get?_push_of_some _ hs
theorem note_new {base : Heap} {env : Env} {outer : List Env} {L e C d : Addr} {Q : Unit → Shared → Prop} (hfr : A.frames = some (env :: outer)) (hl : s.heap.FunFrames base (env :: outer)) (hf : env.frame = some L) (x : Fly base e C d none s.heap)
    (h : ∀ h', Fly base e C d (some L) h' → UpSl s.heap h' → Q () { s with heap := h' }) :
    wpAny M A (noteFrame (.ref e) env) Q E s := by
  refine via fun R_ k_ => ?_
  obtain ⟨oe, vs, hd, stay, en, he, hc, hdc, hdt, h1, head⟩ := x
  refine k_ ?_
  have hsz : 1 < vs.size := (Array.getElem?_eq_some_iff.mp h1).1
  unfold noteFrame
  simp only [hf]
  refine wpAny_bind (wpAny_field he hdt h1 ?_)
  rcases head with ⟨rfl, _⟩ | ⟨T, oT, ts, rfl, nT, hTe, hT, hdT, h3⟩
  · rw [if_neg (by decide)]
    exact entry_at hfr hl hf he hc hdc stay en hdt hsz h
  · rw [if_pos (show (Value.ref T != Value.none) = true from by simp)]
    refine wpAny_bind (wpAny_field hT hdT h3 ?_)
    rw [if_neg (show ¬ (((none : Option Addr).elim Value.none (fun f => rawInt f) == rawInt L) = true) from by simp [rawInt])]
    refine wpAny_bind (wpAny_setField hT hdT (Array.getElem?_eq_some_iff.mp h3).1 ?_)
    have other : ∀ b, b ≠ T → (s.heap.update T (Obj.mapFields (·.setIfInBounds 3 Value.none))).get? b = s.heap.get? b := fun b hb => Heap.get?_update_other _ _ (Ne.symm hb)
    have noRecord : ∀ b o, s.heap.get? b = some o → (∀ vs, o.data ≠ .fields vs) → b ≠ T := fun b o hb hnf q => by
      rw [q, hT] at hb; cases hb; exact hnf ts hdT
    refine entry_at (s := { s with heap := s.heap.update T (Obj.mapFields (·.setIfInBounds 3 Value.none)) }) hfr (hl.of_keeps fun b o hb hnf => ⟨o, (other b (noRecord b o hb hnf)).trans hb, rfl⟩) hf ((other e (Ne.symm hTe)).trans he) hc hdc
      (fun b o hbo => (other b fun q => by rw [q, nT] at hbo; cases hbo).trans (stay b o hbo)) en hdt hsz fun h' x1 x3 => h h' x1 fun b o hb hnf => x3 b o ((other b (noRecord b o hb hnf)).trans hb) hnf
theorem note_again {base : Heap} {env : Env} {L e C d : Addr} {Q : Unit → Shared → Prop} (hf : env.frame = some L) (x : Fly base e C d (some L) s.heap) (h : Q () s) : wpAny M A (noteFrame (.ref e) env) Q E s := by
  refine via fun R_ k_ => ?_
  obtain ⟨oe, vs, hd, stay, en, he, hc, hdc, hdt, h1, head⟩ := x
  refine k_ ?_
  rcases head with ⟨_, q⟩ | ⟨T, oT, ts, rfl, nT, hTe, hT, hdT, h3⟩
  · cases q
  · exact wpAny_noteFrame_inFlight hf he hdt h1 hT hdT h3 h
theorem flight {base : Heap} {L e C d : Addr} {f : Option Addr} {Q : Unit → Shared → Prop} (x : Fly base e C d (some L) s.heap) (h : ∀ h', Fly base e C d f h' → UpSl s.heap h' → Q () { s with heap := h' }) : wpAny M A (setFlight (.ref e) f) Q E s := by
  refine via fun R_ k_ => ?_
  obtain ⟨oe, vs, hd, stay, en, he, hc, hdc, hdt, h1, head⟩ := x
  refine k_ ?_
  rcases head with ⟨_, q⟩ | ⟨T, oT, ts, rfl, nT, hTe, hT, hdT, h3⟩
  · cases q
  unfold setFlight
  refine wpAny_bind (wpAny_field he hdt h1 ?_)
  rw [if_pos (show (Value.ref T != Value.none) = true from by simp)]
  have hz := (Array.getElem?_eq_some_iff.mp h3).1
  refine wpAny_setField hT hdT hz (h _ (.mk oe vs _ (fun b o hbo => ?_) en ?_ hc hdc hdt h1 (.inr ⟨T, _, _, rfl, nT, hTe, Heap.get?_update_self _ hT (Obj.isFreed_of_fields (Obj.data_mapFields hdT _)), Obj.data_mapFields hdT _, by simp [hz]⟩)) fun b o hb hnf => ⟨o.slots, ?_⟩)
  · rw [Heap.get?_update_other _ _ (fun q => by rw [← q, nT] at hbo; cases hbo)]
    exact stay b o hbo
  · rw [Heap.get?_update_other _ _ hTe]; exact he
  · rw [Heap.get?_update_other _ _ (fun q => by rw [← q, hT] at hb; cases hb; exact hnf ts hdT)]
    exact hb
theorem came_back {base : Heap} {env : Env} {L e C d : Addr} (hf : env.frame = some L) (x : Fly base e C d (some L) s.heap) (h : ∀ h', Fly base e C d (some L) h' → UpSl s.heap h' → E (.ref e) { s with heap := h' }) : cameBackBy M A env E (.ref e) s := by
  have x' := x
  refine via fun R_ k_ => ?_
  obtain ⟨oe, vs, hd, stay, en, he, hc, hdc, hdt, h1, head⟩ := x
  refine k_ ?_
  rcases head with ⟨_, q⟩ | ⟨T, oT, ts, rfl, nT, hTe, hT, hdT, h3⟩
  · cases q
  unfold cameBackBy
  refine wpAny_bind (wpAny_field he hdt h1 ?_)
  rw [if_neg (show ¬ ((Value.ref T == Value.none) = true) from by simp), hf]
  exact flight x' h
end
end
section
set_option Elab.async false
set_option autoImplicit false
set_option linter.unusedVariables false
set_option maxRecDepth 100000
set_option tactic.hygienic false
set_option genSizeOf false
set_option genInjectivity false
open PySem PySem.W PyProof.Rows PySem.Calls
open Builtin Builtin.ObjectAttr
section
variable {prog : Program} {w : World} {A : Around} {E : Value → Shared → Prop} {h : Heap} {g : Array GenState} {d : Drawn} {t : Nat} {os : OsState}
variable {cr : CR} {C x : Addr} {newId : String} {mN mA : Str → Option Value} {name : Str} {v : Value}
noncomputable abbrev excBm : List Value := [.type "Exception", .type "BaseException", .type "object"]
set_option tactic.hygienic true in
theorem exc_entry {tk : Tok} {Q : Fin → Shared → Prop}
    (hC : h.get? C = some (cr.obj C excBm cr.ab newId)) (hn : h.Ns cr.N mN) (hna : mN name = none)
    (hB : typeLookup (.type "Exception") name = pure none) (I : h.Inst x C mA) (hv : mA name = some v) (hq : Q (.done (.ret v)) ⟨h, g, d, t, os⟩) :
    wpAny (model prog w) A (Builtin.«object.__getattribute__» ⟨[.ref x, .str name tk], []⟩) Q E ⟨h, g, d, t, os⟩ := by
  refine via fun R_ k_ => ?_
  obtain ⟨o, hx, hc, hnc, hd⟩ := I
  refine k_ ?_
  rcases hd with ⟨_, hmA⟩ | ⟨dx, hdx, hne, hns⟩
  · rw [hmA name] at hv; cases hv
  unfold Builtin.«object.__getattribute__»
  repeat (first | (with_reducible refine wpAny_loadPart_at hx ?_; rw [hc]) | (with_reducible refine wpAny_typeLookup_exc hC hn F.excBase_Exception.mroIs hB ?_; rw [hna]) | wp_step)
  split
  · rename_i c hcd
    exact absurd hcd (hnc c)
  unfold instanceDict
  repeat (first | (with_reducible refine wpAny_loadPart_at hx ?_; rw [hc]) | with_reducible refine wpAny_loadPart_at hC ?_ | wp_step)
  rw [hdx]
  repeat (first | (with_reducible refine wpAny_nsGet hns.ns ?_; rw [hv]) | wp_step)
  exact hq
theorem exc_check {M : Model} {o : Obj} {nameV : Value} {Q : Unit → Shared → Prop} (hC : h.get? C = some (cr.obj C excBm cr.ab newId))
    (hx : h.get? x = some o) (hc : o.cls = .ref C) (hq : Q () ⟨h, g, d, t, os⟩) : wpAny M A (checkBuiltinCall "BaseException.__getattribute__" ⟨[.ref x, nameV], []⟩) Q E ⟨h, g, d, t, os⟩ := by
  have hk : builtinKind "BaseException.__getattribute__" = some .slot := by decide +kernel
  have hsplit : splitId "BaseException.__getattribute__" = some ("BaseException", "__getattribute__") := by decide +kernel
  have hcB : (Value.ref C :: excBm).contains (.type "BaseException") = true := by rw [List.contains_cons]; rfl
  have ha := F.args_bexc_ga (.ref x) nameV
  simp only [checkBuiltinCall, hk, hsplit]
  refine wpAny_bind ?_
  · unfold isInstance
    repeat (first | (with_reducible refine wpAny_loadPart_at hx ?_; rw [hc]) | (with_reducible refine wpAny_isSubtype_exc hC ?_; rw [hcB]) | wp_step)
    exact hq
theorem exc_attr {expr : Bool} {Q : Value → Shared → Prop} (hC : h.get? C = some (cr.obj C excBm cr.ab newId)) (hn : h.Ns cr.N mN) (hng : mN "__getattribute__" = none) (hnh : mN "__getattr__" = none) (hna : mN name = none)
    (hB : typeLookup (.type "Exception") name = pure none) (I : h.Inst x C mA) (hv : mA name = some v) (hh : handedOut v = pure v) (hq : Q v ⟨h, g, d, t + 1, os⟩) :
    wpAny (model prog w) A (getAttr (.ref x) name expr) Q E ⟨h, g, d, t, os⟩ := by
  obtain ⟨o, hx, hc, _⟩ := id I
  have FB := F.attrBase_Exception
  have f3 := FB.ga.bind (.ref x)
  have hx0 : (expr && onTheHeap (Value.builtin "BaseException.__getattribute__")) = false := by cases expr <;> rfl
  have hx2 : (Value.builtin "BaseException.__getattribute__" == Value.builtin "object.__getattribute__") = false := by decide +kernel
  have hx1 : (onTheHeap (Value.ref C) && Value.builtin "BaseException.__getattribute__" == Value.builtin "object.__getattribute__") = false := by rw [hx2]; rfl
  unfold getAttr getAttrBy
  repeat (any_goals (first | assumption | (with_reducible refine wpAny_loadPart_at hx ?_; rw [hc]) | (with_reducible refine wpAny_typeLookup_exc hC hn F.excBase_Exception.mroIs FB.ga.lookup ?_; rw [hng]) | (with_reducible refine wpAny_typeLookup_exc hC hn F.excBase_Exception.mroIs FB.noGetattr ?_; rw [hnh]) | wp_step))
  refine codeAny_call_builtin FB.ga.plain F.entry_bexc_ga (exc_check hC hx hc (exc_entry hC hn hna hB I hv ?_))
  repeat (any_goals (first | assumption | wp_step))
end
end
section
set_option Elab.async false
set_option autoImplicit false
set_option linter.unusedVariables false
set_option maxRecDepth 100000
set_option tactic.hygienic false
set_option genSizeOf false
set_option genInjectivity false
open PySem PySem.W PyProof.Rows PySem.Calls
open Builtin Builtin.ObjectAttr
section
variable {prog : Program} {w : World} {A : Around} {E : Value → Shared → Prop} {h : Heap} {g : Array GenState} {d : Drawn} {t : Nat} {os : OsState}
variable {cr : CR} {C x : Addr} {newId : String} {mN mA : Str → Option Value} {name : Str} {v : Value}
set_option tactic.hygienic true in
theorem first_entry {o : Obj} {tk : Tok} {Q : PySem.Fin → Shared → Prop}
    (hC : h.get? C = some (cr.obj C excBm cr.ab newId)) (hn : h.Ns cr.N mN) (hna : mN name = none)
    (hB : typeLookup (.type "Exception") name = pure none) (hx : h.get? x = some o) (hc : o.cls = .ref C) (hnc : ∀ c, o.data ≠ .cls c) (hdn : o.dict = none)
    (hq : ∀ h' tk', h'.get? x = some { cls := o.cls, dict := some h.objs.size, data := o.data, slots := o.slots } → h'.Ns1 h.objs.size (fun y => if y = name then some v else none) →
      (∀ b o', b ≠ x → h.get? b = some o' → h'.get? b = some o') → Q (.done (.ret .none)) ⟨h', g, d, tk', os⟩) :
    wpAny (model prog w) A (Builtin.«object.__setattr__» ⟨[.ref x, .str name tk, v], []⟩) Q E ⟨h, g, d, t, os⟩ := by
  have SF := F.store_Exception
  have hpass := SF.passes (.ref x)
  unfold Builtin.«object.__setattr__»
  repeat (first | rw [refuse_eq] | (rw [refuseLoop_ref, hpass]) | (with_reducible refine wpAny_loadPart_at hx ?_; rw [hc]) | with_reducible refine wpAny_mroOf_exc hC ?_ | (with_reducible refine wpAny_typeLookup_exc hC hn SF.mro hB ?_; rw [hna]) | wp_step)
  rw [hdn, if_neg (by simp [typeHasDict])]
  split
  · rename_i hcd
    cases hcd
  split
  · rename_i c hcd
    exact absurd hcd (hnc c)
  have hx₁ : (h.push { cls := .type "dict", data := .dict #[] }).get? x = some o := Heap.get?_push_of_some _ hx
  have hxs : x ≠ h.objs.size := Nat.ne_of_lt (Heap.lt_size hx)
  refine wpAny_bind (wpAny_alloc' ?_)
  refine wpAny_bind (wpAny_update' hx₁ ?_)
  refine wpAny_pure ?_
  have hgd : ((h.push { cls := .type "dict", data := .dict #[] }).update x fun o => { cls := o.cls, dict := some h.objs.size, data := o.data, slots := o.slots }).get? h.objs.size = some { cls := .type "dict", data := .dict #[] } :=
    (Heap.get?_update_ne _ _ _ _ hxs.symm).trans (Heap.get?_push_at rfl rfl)
  have hnd : ((h.push { cls := .type "dict", data := .dict #[] }).update x fun o => { cls := o.cls, dict := some h.objs.size, data := o.data, slots := o.slots }).Ns h.objs.size (fun q_ => none) :=
    ⟨_, #[], _, hgd, rfl, fun e he => absurd he (by simp), fun q_ => rfl⟩
  show wpAny _ _ (storeInDict h.objs.size (.str name tk) name v) _ _ _
  unfold storeInDict newKeyGuard
  refine wpAny_bind (wpAny_pure (wpAny_bind (wpAny_nsSet1 (Heap.Ns1.of_empty hnd) fun h' hn' hs => ?_)))
  refine via fun R_ k_ => ?_
  obtain ⟨oD, esD, epD, hoD, hdD, hcD⟩ := hn'.count (Within.cons name v Within.nil)
  refine k_ ?_
  refine wpAny_bind (wpAny_lookBehind hoD (by rw [hdD]; exact pastItsLine_dict (Nat.le_trans hcD (by rw [List.length_cons, List.length_nil, sizeLine_eq]; omega))) ?_)
  wp_walk
  refine hq h' _ ((hs.2 x hxs).trans (Heap.get?_update_self _ hx₁ ?_)) ?_ fun b ob hbx hb => (hs.2 b (Nat.ne_of_lt (Heap.lt_size hb))).trans ((Heap.get?_update_ne _ _ _ _ hbx).trans (Heap.get?_push_of_some _ hb))
  · have hfr := (Heap.get?_some_iff.mp hx).2
    obtain ⟨oc, od, odt, osl⟩ := o
    cases odt <;> first | rfl | exact hfr
  · refine via fun R_ k_ => ?_
    obtain ⟨o', es, ep, e1, e2, e3, eu, e4⟩ := hn'
    refine k_ ?_
    exact ⟨o', es, ep, e1, e2, e3, eu, fun y => by rw [e4 y]⟩
theorem first_call {o : Obj} {tk : Tok} {R : Result → Shared → Prop}
    (hC : h.get? C = some (cr.obj C excBm cr.ab newId)) (hn : h.Ns cr.N mN) (hna : mN name = none)
    (hB : typeLookup (.type "Exception") name = pure none) (hx : h.get? x = some o) (hc : o.cls = .ref C) (hnc : ∀ c, o.data ≠ .cls c) (hdn : o.dict = none)
    (hq : ∀ h' tk', h'.get? x = some { cls := o.cls, dict := some h.objs.size, data := o.data, slots := o.slots } → h'.Ns1 h.objs.size (fun y => if y = name then some v else none) →
      (∀ b o', b ≠ x → h.get? b = some o' → h'.get? b = some o') → R (.ok (.ret .none)) ⟨h', g, d, tk', os⟩) :
    codeAny (model prog w) A (.call (.builtin "object.__setattr__") ⟨[.ref x, .str name tk, v], []⟩) R ⟨h, g, d, t, os⟩ := by
  have SF := F.store_Exception
  refine codeAny_call_builtin SF.slot.plain SF.entry ?_
  with_reducible refine wpAny_check_sa SF hC hx hc ?_
  exact first_entry hC hn hna hB hx hc hnc hdn hq
theorem first_attr {o : Obj} {Q : Unit → Shared → Prop}
    (hC : h.get? C = some (cr.obj C excBm cr.ab newId)) (hn : h.Ns cr.N mN) (hns : mN "__setattr__" = none) (hna : mN name = none)
    (hB : typeLookup (.type "Exception") name = pure none) (hx : h.get? x = some o) (hc : o.cls = .ref C) (hnc : ∀ c, o.data ≠ .cls c) (hdn : o.dict = none)
    (hq : ∀ h' tk', h'.get? x = some { cls := o.cls, dict := some h.objs.size, data := o.data, slots := o.slots } → h'.Ns1 h.objs.size (fun y => if y = name then some v else none) →
      (∀ b o', b ≠ x → h.get? b = some o' → h'.get? b = some o') → Q () ⟨h', g, d, tk', os⟩) :
    wpAny (model prog w) A (setAttr (.ref x) name v) Q E ⟨h, g, d, t, os⟩ := by
  have SF := F.store_Exception
  have f3 := SF.slot.bind (.ref x)
  unfold setAttr callSpecial? specialOf
  repeat (any_goals (first | assumption | (with_reducible refine wpAny_loadPart_at hx ?_; rw [hc]) | (with_reducible refine wpAny_typeLookup_exc hC hn SF.mro SF.slot.lookup ?_; rw [hns]) | wp_step))
  refine first_call hC hn hna hB hx hc hnc hdn fun h' tk' a b c => ?_
  repeat (any_goals (first | assumption | wp_step))
  exact hq h' tk' a b c
end
end
section
set_option Elab.async false
set_option autoImplicit false
set_option linter.unusedVariables false
set_option maxRecDepth 100000
set_option backward.match.sparseCases false
set_option tactic.hygienic false
set_option genSizeOf false
set_option genInjectivity false
open PySem PySem.W PyProof.Rows PySem.Calls
theorem name_at {M : Model} {A : Around} {E : Value → Shared → Prop} {s : Shared} {env : Env} {x : Str} {p : Pos} {m : Str → Option Value} {v : Value} {Q : Value → Shared → Prop} (hk : env.scope.kind = .function) (hx : env.kindOf x = some .local) (hn : s.heap.Ns env.locals m) (hm : m x = some v)
    (h1 : (x == ("__debug__" : Str)) = false) (hq : Q v s) : wpAny M A (eval (.Name x p) env) Q E s := wpAny_Name (wpAny_loadName_local hk hx hn hm hq) h1
theorem set_name {prog : Program} {w : World} {A : Around} {E : Value → Shared → Prop} {s : Shared} {env : Env} {x y f : Str} {p1 p2 p3 p : Pos} {m : Str → Option Value} {u v : Value} {Q : Flow → Shared → Prop} (hk : env.scope.kind = .function) (hx : env.kindOf x = some .local) (hy : env.kindOf y = some .local)
    (hn : s.heap.Ns env.locals m) (mx : m x = some u) (my : m y = some v) (h1 : (x == ("__debug__" : Str)) = false) (h2 : (y == ("__debug__" : Str)) = false) (h : wpAny (model prog w) A (setAttr u f v) (fun q_ s' => Q .next s') E s) :
    wpAny (model prog w) A (exec (.Assign [.Attribute (.Name x p1) f p2] (.Name y p3) p) env) Q E s := by
  refine wpAny_Assign_stores (name_at hk hy hn my h2 ?_) rfl rfl
  rw [assignEach_cons rfl]
  show wpAny _ A (do
    let ov ← holding [v] (eval (.Name x p1) env)
    standAt p2.atName
    holding [v, ov] (setAttr ov f v)
    release [v, ov] []) (fun q_ => Q .next) E s
  refine wpAny_bind (wpAny_holding (name_at hk hx hn mx h1 (wpAny_bind (wpAny_standAt (wpAny_bind (wpAny_holding ?_))))))
  exact wpAny_mono h (fun q_ s' hq => wpAny_release hq) fun q_ q_ q => q
inductive FailOk (B : Base) (ki : Nat) : Prop
  | mk (cr : CR) (mN : Str → Option Value)
      (hC : B.h₀.get? (B.clA .fail) = some (cr.obj (B.clA .fail) excBm cr.ab "Exception.__new__")) (hN : B.h₀.Ns cr.N mN)
      (ini : mN "__init__" = some (.ref (B.fnA ki))) (gab : mN "__getattribute__" = none) (gat : mN "__getattr__" = none) (sat : mN "__setattr__" = none) (fld : ∀ f : Fld, mN f.name = none)
      (fn : ∃ o, B.h₀.get? (B.fnA ki) = some o ∧ o.cls = .type "function")
theorem fld_exc (f : Fld) : typeLookup (.type "Exception") f.name = pure none := by
  cases f <;> (rw [typeLookup_type, builtinLookup_eq_fast]; kernel_rfl)
noncomputable abbrev iniNames : List (List Nat) := [[115, 101, 108, 102], [107, 105, 110, 100], [116, 101, 120, 116]]
noncomputable def iniFn : IFn := ⟨iniNames, 3, [s_assign (t_attr (n_var 0) Fld.kind) (n_var 1), s_assign (t_attr (n_var 0) Fld.text) (n_var 2)]⟩
theorem ini_stmt {T : Tabs} {sc : Scope} {i j : Nat} {f : Fld} {x : Stmt} (h : (s_assign (t_attr (n_var i) f) (n_var j)).mt T sc iniNames x = true) :
    ∃ a b p1 p2 p3 p n k, x = .Assign [.Attribute (.Name a p1) f.name p2] (.Name b p3) p ∧ iniNames[i]? = some n ∧ a = toS n ∧ iniNames[j]? = some k ∧ b = toS k ∧ (a == ("__debug__" : Str)) = false ∧ (b == ("__debug__" : Str)) = false := by
  obtain ⟨ts, v, p, rfl, h⟩ := stAssign_i (f := _) h
  refine on1_e h fun tg h => ?_
  have h := (and_i (and_i (and_i (and_i (and_i h).1).1).1).1)
  refine onAttribute_e h.1 fun o nn p2 h1 => ?_
  have h1 := and_i h1
  have e := of_decide_eq_true h1.1
  subst e
  refine onName_e h1.2 fun a p1 h3 => ?_
  refine onName_e h.2 fun b p3 h4 => ?_
  have h3 := and_i (and_i h3).1
  have h4 := and_i (and_i h4).1
  refine via fun R_ k_ => ?_
  obtain ⟨n, hn, ha⟩ := isNm_i (and_i h3.1).1
  obtain ⟨k, hk, hb⟩ := isNm_i (and_i h4.1).1
  refine k_ ?_
  exact ⟨a, b, p1, p2, p3, p, n, k, rfl, hn, isS_eq ha, hk, isS_eq hb, not_i h3.2, not_i h4.2⟩
end
section
set_option Elab.async false
set_option autoImplicit false
set_option linter.unusedVariables false
set_option maxRecDepth 100000
set_option backward.match.sparseCases false
set_option tactic.hygienic false
set_option genSizeOf false
set_option genInjectivity false
open PySem PySem.W PyProof.Rows PySem.Calls
inductive IniOk (B : Base) (ki : Nat) : Prop
  | mk (fd : FuncData) (T : Tabs) (body : List Stmt) (core : FnCore B (B.fnA ki) fd T iniNames 3) (hb : fd.body = .stmts body) (hm : mSs T fd.scope iniNames iniFn.body body = true) (loc : ∀ n ∈ iniNames, isKind fd.scope (toS n) .local = true)
      (bind : ∀ (s : Shared) (vs : List Value), vs.length = 3 → BindsTo s fd ⟨vs, []⟩ ((iniNames.map toS).zip vs))
noncomputable abbrev excO (C t : Addr) : Obj := { cls := .ref C, data := .fields #[.ref t, .none, .none, .none, .bool false, .none] }
theorem ini_call {B : Base} {ki : Nat} (O : BaseOk B) (FO : FailOk B ki) (IO : IniOk B ki) {A : Around} {G : St} {H : AH} {s : Shared} {h0 : Heap} (I : Inv B G H h0) (kp : ∀ b o, h0.get? b = some o → s.heap.get? b = some o) {e t : Addr} (en : h0.get? e = none) (he : s.heap.get? e = some (excO (B.clA .fail) t))
    (hroom : A.depth < recursionLimit) {v1 v2 : Value} {Q : Value → Shared → Prop} {E : Value → Shared → Prop}
    (hQ : ∀ h' tk' d m sl, h'.get? e = some { cls := .ref (B.clA .fail), dict := some d, data := .fields #[.ref t, .none, .none, .none, .bool false, .none], slots := sl } → h'.Ns1 d m → m Fld.kind.name = some v1 → (∀ b o, h0.get? b = some o → h'.get? b = some o) → h0.get? d = none → Q .none { s with heap := h', toks := tk' }) :
    wpAny (model B.prog B.w) A (call (.ref (B.fnA ki)) [.ref e, v1, v2]) Q E s := by
  refine via fun R_ k_ => ?_
  obtain ⟨cr, mN, hC, hN, ini, gab, gat, sat, fld, fn⟩ := FO
  obtain ⟨fd, T, body, C, hbody, hm, loc, bind⟩ := IO
  have I' : Inv B G H s.heap := I.keeps fun b o q_ e => kp b o e
  have S := scopeOk_iff C.sc
  obtain ⟨o, ho, hd⟩ := C.obj
  refine k_ ?_
  have ho' := I'.sub _ _ (I'.old _ _ ho C.tab)
  have hcd : s.heap.CodeRec fd.code fd.qualname := by
    refine via fun R_ k_ => ?_
    obtain ⟨c, oc, fs, t, e, g, ct, d, q⟩ := C.code
    refine k_ ?_
    exact ⟨c, oc, fs, t, e, I'.sub _ _ (I'.old _ _ g ct), d, q⟩
  have S' := C.sc
  unfold scopeOk at S'
  simp only [Bool.and_eq_true, Bool.not_eq_true'] at S'
  have oldH : ∀ {h : Heap}, (∀ b o, h0.get? b = some o → h.get? b = some o) → ∀ b o, B.h₀.get? b = some o → h.get? b = some o := fun k b o e => k b o (I.sub _ _ (I.old _ _ e (fun m => nomatch m)))
  refine wpAny_call (codeAny_call_cellsB (args := ⟨[.ref e, v1, v2], []⟩) hroom ho' hd (I'.noLimit O) hcd hbody (bind s [.ref e, v1, v2] rfl) C.clo (fun x hx => ?_) (fun s₁ X => ?_) S'.1.1.1.2 S'.1.1.1.1.2 S.kind)
  · have hmm : x.1 ∈ (iniNames.map toS) := by
      have := List.mem_map_of_mem (f := Prod.fst) hx
      rw [zip_keys rfl] at this
      exact this
    obtain ⟨n, hn, e⟩ := List.mem_map.mp hmm
    rw [← e]
    exact .inl (isKind_iff.mp (loc n hn))
  · obtain ⟨h1, tk1, rfl⟩ := InCallC.same X
    have k1' : ∀ b o, s.heap.get? b = some o → h1.get? b = some o := X.toInCall.keep
    have hns := X.toInCall.ns
    have hLe : (callEnvC fd s.heap.objs.size (B.fnA ki)).locals ≠ e := fun q => by
      have := Heap.lt_size he
      rw [← q] at this
      exact absurd this (Nat.lt_irrefl _)
    have nd : (((iniNames.map toS).zip [Value.ref e, v1, v2]).map (·.1)).Nodup := by
      rw [zip_keys rfl]
      exact List.Pairwise.map toS (fun a b (q : a ≠ b) q' => q (toS_inj.mp q')) (by decide)
    have kd : ∀ n ∈ iniNames, (callEnvC fd s.heap.objs.size (B.fnA ki)).kindOf (toS n) = some .local := fun n hn => isKind_iff.mp (loc n hn)
    have m0 := bindL_at (kindOf := (callEnvC fd s.heap.objs.size (B.fnA ki)).kindOf) _ (fun q_ => none) (toS [115, 101, 108, 102]) (.ref e) nd (.head _) (kd _ (.head _))
    have m1 := bindL_at (kindOf := (callEnvC fd s.heap.objs.size (B.fnA ki)).kindOf) _ (fun q_ => none) (toS [107, 105, 110, 100]) v1 nd (.tail _ (.head _)) (kd _ (.tail _ (.head _)))
    have m2 := bindL_at (kindOf := (callEnvC fd s.heap.objs.size (B.fnA ki)).kindOf) _ (fun q_ => none) (toS [116, 101, 120, 116]) v2 nd (.tail _ (.tail _ (.head _))) (kd _ (.tail _ (.tail _ (.head _))))
    refine onC_e (f := _) hm fun x1 r1 hm1 => ?_
    have hm1 := and_i hm1
    refine onC_e (f := _) hm1.2 fun x2 r2 hm2 => ?_
    have hm2 := and_i hm2
    cases on0_i (show on0 r2 = true from hm2.2)
    obtain ⟨a, b, p1, p2, p3, p, n, k, rfl, hn, rfl, hk, rfl, d1, d2⟩ := ini_stmt hm1.1
    cases hn
    cases hk
    obtain ⟨a', b', p1', p2', p3', p', n', k', rfl, hn, rfl, hk, rfl, d1', d2'⟩ := ini_stmt hm2.1
    cases hn
    cases hk
    have hx1 := k1' _ _ he
    refine wpAny_execs_cons (set_name S.kind (kd _ (.head _)) (kd _ (.tail _ (.head _))) hns m0 m1 d1 d2 ?_)
    have hC1 := k1' _ _ (oldH kp _ _ hC)
    have hN1 : h1.Ns cr.N mN := by
      refine via fun R_ k_ => ?_
      obtain ⟨o, es, ep, e, r⟩ := hN
      refine k_ ?_
      exact ⟨o, es, ep, k1' _ _ (oldH kp _ _ e), r⟩
    refine first_attr hC1 hN1 sat (fld .kind) (fld_exc .kind) hx1 rfl (fun c q => by cases q) rfl fun h2 tk2 g1 g2 g3 => ?_
    have hns2 : h2.Ns (callEnvC fd s.heap.objs.size (B.fnA ki)).locals (bindL (callEnvC fd s.heap.objs.size (B.fnA ki)).kindOf ((iniNames.map toS).zip [Value.ref e, v1, v2]) fun q_ => none) := by
      refine via fun R_ k_ => ?_
      obtain ⟨o, es, ep, e', r⟩ := hns
      refine k_ ?_
      exact ⟨o, es, ep, g3 _ _ hLe e', r⟩
    refine wpAny_execs_cons (set_name S.kind (kd _ (.head _)) (kd _ (.tail _ (.tail _ (.head _)))) hns2 m0 m2 d1' d2' ?_)
    have hne : h1.objs.size ≠ e := Nat.ne_of_gt (Heap.lt_size hx1)
    have oldB : ∀ b o, B.h₀.get? b = some o → b ≠ e := fun b o q x => by
      have := I.sub _ _ (I.old _ _ q (fun m => nomatch m))
      rw [x, en] at this; cases this
    have hC2 := g3 _ _ (oldB _ _ hC) hC1
    have hN2 : h2.Ns cr.N mN := by
      refine via fun R_ k_ => ?_
      obtain ⟨o, es, ep, e', r⟩ := hN
      refine k_ ?_
      exact ⟨o, es, ep, g3 _ _ (oldB _ _ e') (k1' _ _ (oldH kp _ _ e')), r⟩
    refine store_attr (ns := [Fld.kind.name]) F.store_Exception hC2 hN2 sat (fld .text) (fld_exc .text) (fun q => oldB _ _ hC q.symm) ⟨_, g1, rfl, (fun c q => by cases q), .inr ⟨h1.objs.size, rfl, hne, g2⟩⟩ (fun h3 tk3 i3 c3 o3 => ?_) (fun z hz => ?_) (by decide)
    · refine wpAny_execs_nil ?_
      refine via fun R_ k_ => ?_
      obtain ⟨o1, u1, u2, u3, u4, u5⟩ := o3 _ g1
      have u5 := u5 _ rfl
      have eo : o1 = { cls := .ref (B.clA .fail), dict := some h1.objs.size, data := .fields #[.ref t, .none, .none, .none, .bool false, .none], slots := o1.slots } := by
        cases o1
        cases u2; cases u3; cases u5; rfl
      obtain ⟨o2, w1, _, _, w4⟩ := i3
      refine k_ ?_
      rw [u1] at w1; cases w1
      rcases w4 with ⟨w5, _⟩ | ⟨d5, w5, _, w6⟩
      · rw [u5] at w5; cases w5
      · rw [u5] at w5; cases w5
        refine hQ h3 tk3 _ _ o1.slots (by rw [u1, ← eo]) w6 ?_ (fun b o q => ?_) ?_
        · show (if Fld.kind.name = Fld.text.name then some v2 else if Fld.kind.name = Fld.kind.name then some v1 else none) = some v1
          rw [if_neg (fun q => by cases fld_inj q), if_pos rfl]
        · have hb : b ≠ e := fun x => by rw [x, en] at q; cases q
          have q1 := k1' _ _ (kp _ _ q)
          exact c3 b o hb (fun o' dx x1 x2 => by
            rw [g1] at x1; cases x1; cases x2
            exact Nat.ne_of_lt (Heap.lt_size q1)) (g3 b o hb q1)
        · cases q : h0.get? h1.objs.size with
          | none => rfl
          | some o => exact absurd (Heap.lt_size (k1' _ _ (kp _ _ q))) (Nat.lt_irrefl _)
    · by_cases q : z = Fld.kind.name
      · rw [q]; exact .head _
      · exact absurd (if_neg q) hz
end
section
set_option Elab.async false
set_option autoImplicit false
set_option linter.unusedVariables false
set_option maxRecDepth 100000
set_option backward.match.sparseCases false
set_option tactic.hygienic false
set_option genSizeOf false
set_option genInjectivity false
open PySem PySem.W PyProof.Rows PySem.Calls
noncomputable abbrev excD (C d t : Addr) (sl : Array (Option Value)) : Obj := { cls := .ref C, dict := some d, data := .fields #[.ref t, .none, .none, .none, .bool false, .none], slots := sl }
section
variable {M : Model} {A : Around} {E : Value → Shared → Prop} {env : Env} {s : Shared}
variable {cr : CR} {C : Addr} {newId : String}
theorem raiseStmt_at {x : Sem Value} {Q : Flow → Shared → Prop} (hh : A.handled = none)
    (h : wpAny M A x (fun v s₁ => ∃ e t d sl, v = .ref e ∧ s₁.heap.get? C = some (cr.obj C excBm cr.ab newId) ∧ s₁.heap.get? e = some (excD C d t sl) ∧ E (.ref e) s₁) E s) :
    wpAny M A (raiseStmt env (some x) none) Q E s := by
  have hcB : (Value.ref C :: excBm).contains (.type "BaseException") = true := by rw [List.contains_cons]; rfl
  unfold raiseStmt
  refine wpAny_bind (wpAny_mono h (fun v s₁ h₁ => ?_) fun q_ q_ x => x)
  obtain ⟨e, t, dx, sl, rfl, hC, he, hE⟩ := h₁
  obtain ⟨hp, g, d, tk, os⟩ := s₁
  repeat (first | with_reducible refine wpAny_loadPart_at he ?_ | with_reducible refine wpAny_loadPart_at hC ?_ | (with_reducible refine wpAny_isSubtype_exc hC ?_; rw [hcB]) | wp_step)
  exact wpAny_raiseNew_none hh hE
end
theorem raise_run {B : Base} {ki : Nat} {A : Around} {call' : Orc} (y : Hyp B A call') (FO : FailOk B ki) (IO : IniOk B ki) (hroom : A.depth + 1 < recursionLimit) {T : Tabs} {sc : Scope} {ns : List (List Nat)} {env : Env} {F : AF} {g : XE} {es : List XE} {x : Stmt} (h : (s_raise (n_call g es)).mt T sc ns x = true)
    {s : Shared} {G : St} {H : AH} (P : FrOK B T sc ns env F G s.heap) (I : Inv B G H s.heap) {k1 k2 : List Nat} (e1 : g.ev B.Gl call' F H = some (.cls .fail, H)) (e2 : evs B.Gl call' F es H = some ([.str k1, .str k2], H)) {Q : Flow → Shared → Prop} {E : Value → Shared → Prop}
    (hQ : ∀ G1 h1 e t d m sl u h' tk', Step B Pure G s.heap G1 h1 → Inv B G1 H h1 → FrOK B T sc ns env F G1 h1 → h1.get? e = none → h'.get? e = some (excD (B.clA .fail) d t sl) → h'.Ns1 d m → m Fld.kind.name = some (.str (toS k1) u) → (∀ b o, h1.get? b = some o → h'.get? b = some o) → h1.get? d = none → E (.ref e) { s with heap := h', toks := tk' }) :
    wpAny (model B.prog B.w) A (exec x env) Q E s := by
  obtain ⟨o, c, p, rfl, h⟩ := stRaise_i (f := _) h
  have h := and_i h
  have ec := onN_i h.1
  subst ec
  refine onS_e h.2 fun ex hx => ?_
  clear h
  obtain ⟨gx, xs, ks, cp, rfl, hc⟩ := onCall_i (f := _) hx
  clear hx
  have h := and_i (and_i hc).1
  have h3 := h.2
  have h := and_i h.1
  have h2 := h.2
  have h := and_i h.1
  have e0 := on0_i h.1
  subst e0
  have pr := pairE y env F h2
  obtain ⟨cn, np, rfl, _⟩ := onName_i (f := _) h3
  obtain ⟨cr, mN, hC, hN, ini, gab, gat, sat, fld, fn⟩ := id FO
  have old : ∀ {G1 : St} {h1 : Heap}, Inv B G1 H h1 → ∀ b o, B.h₀.get? b = some o → h1.get? b = some o := fun I1 b o e => I1.sub _ _ (I1.old _ _ e (fun m => nomatch m))
  rw [arm_exec_Raise]
  refine wpAny_bind (wpAny_standAt (raiseStmt_at (C := B.clA .fail) (cr := cr) (newId := "Exception.__new__") y.hA ?_))
  refine wpAny_bind (wpAny_mono (Q := fun v s₁ => ∃ e t d sl, v = .ref e ∧ s₁.heap.get? (B.clA .fail) = some (cr.obj (B.clA .fail) excBm cr.ab "Exception.__new__") ∧ s₁.heap.get? e = some (excD (B.clA .fail) d t sl) ∧ E (.ref e) s₁) ?_ (fun v s₁ h₁ => wpAny_bind (wpAny_standAt (wpAny_pure h₁))) fun q_ q_ x => x)
  refine wpAny_Call_NameR ((g.ok y h.2 env F).1 s G H _ H P I e1 _ _ fun v G1 h1 t1 s1 I1 P1 r1 => callWith_any (noStar_trees pr.noStar).1 ?_)
  refine pr.evL (p := cp) _ G1 H _ H P1 I1 e2 _ _ fun vs G2 h2 t2 s2 I2 P2 r2 => ?_
  rw [show v = _ from r1]
  obtain ⟨v1, v2, rfl, r3, r4⟩ := repL_two r2
  obtain ⟨u1, rfl⟩ := r3
  refine ⟨.cls (old I2 _ _ hC), ?_⟩
  obtain ⟨of, hof, hfc⟩ := fn
  have hN2 : h2.Ns cr.N mN := by
    refine via fun R_ k_ => ?_
    obtain ⟨o, es', ep, e', r⟩ := hN
    refine k_ ?_
    exact ⟨o, es', ep, old I2 _ _ e', r⟩
  refine wpAny_call_exc_init (h := h2) PySem.F.excBase_Exception (old I2 _ _ hC) hN2 ini (old I2 _ _ hof) hfc (fun h' e hm => ?_)
  obtain ⟨t, ht, _, _⟩ := hm.there
  refine ini_call y.O FO IO (h0 := h2) (s := ⟨h', s.gens, s.drawn, t2, s.os⟩) I2 hm.keeps hm.new ht hroom fun h3 tk3 d m sl w1 w2 w3 w4 w5 => ⟨rfl, e, t, d, sl, rfl, w4 _ _ (old I2 _ _ hC), w1, ?_⟩
  exact hQ G2 h2 e t d m sl u1 h3 tk3 (s1.trans s2) I2 P2 hm.new w1 w2 w3 w4 w5
end
section
set_option Elab.async false
set_option autoImplicit false
set_option linter.unusedVariables false
set_option maxRecDepth 100000
set_option backward.match.sparseCases false
set_option tactic.hygienic false
set_option genSizeOf false
set_option genInjectivity false
open PySem PySem.W PyProof.Rows PySem.Calls
noncomputable def FrsOk (l : List Env) (G : St) (h : Heap) : Prop := ∀ env ∈ l, env.scope.kind ≠ .module ∧ env.frame = some env.locals ∧ G.g env.locals = none ∧ env.locals ∉ G.adr ∧ ∃ o, h.get? env.locals = some o ∧ ∀ vs, o.data ≠ .fields vs
theorem FrsOk.step {B : Base} {l : List Env} {G G' : St} {h h' : Heap} (f : FrsOk l G h) (st : Step B Pure G h G' h') : FrsOk l G' h' := fun env he => by
  refine via fun R_ k_ => ?_
  obtain ⟨a, b, c, d, o, e, n⟩ := f env he
  refine k_ ?_
  exact ⟨a, b, (st.ext _ o e (fun q => q)).trans c, not_new st d (fun q => q) e, o, st.keep _ o (fun q => q) d (fun m => nomatch m) e, n⟩
noncomputable abbrev locs (l : List Env) : List Addr := l.map (·.locals)
noncomputable abbrev rangeE : List Nat := [82, 97, 110, 103, 101, 69, 114, 114, 111, 114]
inductive Thrown (B : Base) (f : Option Addr) (l : List Env) (H' : AH) (G : St) (h : Heap) (G' : St) (h' : Heap) (e : Addr) : Prop
  | mk (hr base : Heap) (d : Addr) (m : Str → Option Value) (u : Tok) (st : Step B Pure G h G' hr) (I : Inv B G' H' hr) (en : h.get? e = none)
      (bk : ∀ b o, hr.get? b = some o → (G'.g b = some o ∨ b ∈ G'.adr ∨ ∃ o0, h.get? b = some o0) → b ∉ locs l → base.get? b = some o)
      (fl : Fly base e (B.clA .fail) d f h') (fr : h'.FunFrames base l) (up : ∀ a ∈ locs l, ∀ o, hr.get? a = some o → (∀ vs, o.data ≠ .fields vs) → ∃ sl, h'.get? a = some { o with slots := sl }) (dn : h'.Ns1 d m) (dl : d ∉ locs l) (mk : m Fld.kind.name = some (.str (toS rangeE) u))
theorem ns1_up {h h' : Heap} {a : Addr} {m : Str → Option Value} (x : h.Ns1 a m) (k : UpSl h h') : h'.Ns1 a m := by
  refine via fun R_ k_ => ?_
  obtain ⟨o, es, ep, e, d, r⟩ := x
  refine k_ ?_
  obtain ⟨sl, q⟩ := k a o e (fun vs z => by rw [d] at z; cases z)
  exact ⟨_, es, ep, q, d, r⟩
theorem funFrames_of {base h : Heap} : ∀ {l : List Env}, (∀ env ∈ l, env.scope.kind ≠ .module ∧ env.frame = some env.locals ∧ base.get? env.locals = none ∧ ∃ o, h.get? env.locals = some o ∧ ∀ vs, o.data ≠ .fields vs) → h.FunFrames base l
  | [], _ => trivial
  | env :: l, k => by
    refine via fun R_ k_ => ?_
    obtain ⟨a, b, c, o, d, e⟩ := k env (.head _)
    refine k_ ?_
    exact ⟨a, ⟨env.locals, o, b, c, d, e⟩, funFrames_of fun x hx => k x (.tail _ hx)⟩
theorem thrown_new {B : Base} {l : List Env} {H : AH} {G G1 : St} {h h1 h' : Heap} {e t d : Addr} {m : Str → Option Value} {sl : Array (Option Value)} {u : Tok} (st : Step B Pure G h G1 h1) (I : Inv B G1 H h1) (fs : FrsOk l G1 h1) (en : h1.get? e = none) (he : h'.get? e = some (excD (B.clA .fail) d t sl))
    (dn : h'.Ns1 d m) (mk : m Fld.kind.name = some (.str (toS rangeE) u)) (kp : ∀ b o, h1.get? b = some o → h'.get? b = some o) (dw : h1.get? d = none) : Thrown B none l H G h G1 h' e := by
  have hdl : d ∉ locs l := fun hm => by
    refine via fun R_ k_ => ?_
    obtain ⟨env, hv, q⟩ := List.mem_map.mp hm
    obtain ⟨_, _, _, _, o, x, _⟩ := fs env hv
    refine k_ ?_
    rw [q, dw] at x; cases x
  refine .mk h1 (hideAll h' (e :: locs l)) d m u st I ?_ (fun b o hb q_ hn => hideAll_get _ (kp b o hb) fun hm => ?_) (.mk _ _ .none (fun b o q => of_hideAll _ q) (hideAll_none _ (.head _)) he rfl rfl rfl rfl (.inl ⟨rfl, rfl⟩)) (funFrames_of fun env hv => ?_) (fun a q_ o hb q_ => ⟨o.slots, kp a o hb⟩) dn hdl mk
  · cases q : h.get? e with
    | none => rfl
    | some o =>
      obtain ⟨o', q'⟩ := st.live e o (fun q => q) q
      rw [en] at q'; cases q'
  · rcases List.mem_cons.mp hm with x | x
    · rw [x, en] at hb; cases hb
    · exact hn x
  · refine via fun R_ k_ => ?_
    obtain ⟨a, b, _, _, o, x, y⟩ := fs env hv
    refine k_ ?_
    exact ⟨a, b, hideAll_none _ (.tail _ (List.mem_map_of_mem hv)), o, kp _ _ x, y⟩
theorem Thrown.on {B : Base} {f f' : Option Addr} {l : List Env} {H' : AH} {G G' : St} {h hh : Heap} {e : Addr} (x : Thrown B f l H' G h G' hh e) {P : Prop}
    (k : ∀ base d, Fly base e (B.clA .fail) d f hh → hh.FunFrames base l → (∀ h', Fly base e (B.clA .fail) d f' h' → UpSl hh h' → Thrown B f' l H' G h G' h' e) → P) : P := by
  refine via fun R_ k_ => ?_
  obtain ⟨hr, base, d, m, u, st, I, en, bk, fl, fr, up, dn, dl, mk⟩ := x
  refine k_ ?_
  refine k base d fl fr fun h' f1 f3 => .mk hr base d m u st I en bk f1 (f3.fun fr) (fun a ha o q n => ?_) (ns1_up dn f3) dl mk
  obtain ⟨sl, q1⟩ := up a ha o q n
  obtain ⟨sl', q2⟩ := f3 a _ q1 n
  exact ⟨sl', q2⟩
section
variable {B : Base} {M : Model} {A : Around} {E : Value → Shared → Prop} {env : Env} {l : List Env} {H' : AH} {G G' : St} {h : Heap} {e : Addr} {f : Option Addr}
theorem thrown_noted {s : Shared} {Q : Unit → Shared → Prop} (hfr : A.frames = some (env :: l)) (hf : env.frame = some env.locals) (hff : f = none ∨ f = some env.locals) (x : Thrown B f (env :: l) H' G h G' s.heap e)
    (hQ : ∀ h', Thrown B (some env.locals) (env :: l) H' G h G' h' e → Q () { s with heap := h' }) : wpAny M A (noteFrame (.ref e) env) Q E s := by
  rcases hff with rfl | rfl
  · exact x.on (f' := some env.locals) fun base d fl fr k => note_new hfr fr hf fl fun h' a b => hQ h' (k h' a b)
  · exact x.on (f' := some env.locals) fun base d fl fr k => note_again hf fl (hQ s.heap x)
theorem thrown_flight {s : Shared} {Q : Unit → Shared → Prop} {f' : Option Addr} (x : Thrown B (some env.locals) (env :: l) H' G h G' s.heap e)
    (hQ : ∀ h', Thrown B f' (env :: l) H' G h G' h' e → Q () { s with heap := h' }) : wpAny M A (setFlight (.ref e) f') Q E s :=
  x.on (f' := f') fun base d fl fr k => flight fl fun h' a b => hQ h' (k h' a b)
theorem thrown_leaves {s : Shared} {Q : Unit → Shared → Prop} (hfr : A.frames = some (env :: l)) (hf : env.frame = some env.locals) (hff : f = none ∨ f = some env.locals) (x : Thrown B f (env :: l) H' G h G' s.heap e)
    (hQ : ∀ h', Thrown B none (env :: l) H' G h G' h' e → Q () { s with heap := h' }) : wpAny M A (noteFrame (.ref e) env) (fun q_ s' => wpAny M A (setFlight (.ref e) none) Q E s') E s :=
  thrown_noted hfr hf hff x fun q_ y => thrown_flight (s := { s with heap := _ }) y hQ
theorem thrown_back {s : Shared} (hfr : A.frames = some (env :: l)) (hf : env.frame = some env.locals) (hff : f = none ∨ f = some env.locals) (x : Thrown B f (env :: l) H' G h G' s.heap e)
    (hQ : ∀ h', Thrown B (some env.locals) (env :: l) H' G h G' h' e → E (.ref e) { s with heap := h' }) : notedBy M A env (cameBackBy M A env E) (.ref e) s :=
  thrown_noted hfr hf hff x fun h1 y => y.on (f' := some env.locals) fun base d fl fr k => came_back (s := { s with heap := h1 }) hf fl fun h' a b => hQ h' (k h' a b)
end
theorem Thrown.shift {B : Base} {env : Env} {l : List Env} {H' : AH} {G0 G G' : St} {h0 h h' : Heap} {e : Addr} {f : Option Addr} (x : Thrown B f (env :: l) H' G h G' h' e) (st0 : Step B Pure G0 h0 G h) (new : h0.get? env.locals = none) (lg : G.g env.locals = none) (la : env.locals ∉ G.adr) (le : ∃ o, h.get? env.locals = some o) : Thrown B f l H' G0 h0 G' h' e := by
  refine via fun R_ k_ => ?_
  obtain ⟨hr, base, d, m, u, st, I, en, bk, fl, fr, up, dn, dl, mk⟩ := x
  obtain ⟨o1, le⟩ := le
  refine k_ ?_
  refine .mk hr base d m u (st0.trans st) I ?_ (fun b o hb hw hn => bk b o hb ?_ fun hm => ?_) fl fr.2.2 (fun a ha => up a (.tail _ ha)) dn (fun q => dl (.tail _ q)) mk
  · cases q : h0.get? e with
    | none => rfl
    | some o =>
      obtain ⟨o', q'⟩ := st0.live e o (fun q => q) q
      rw [en] at q'; cases q'
  · rcases hw with w | w | ⟨o0, w⟩
    · exact .inl w
    · exact .inr (.inl w)
    · exact .inr (.inr (st0.live b o0 (fun q => q) w))
  · rcases List.mem_cons.mp hm with q | q
    · rcases hw with w | w | ⟨o0, w⟩
      · have q' : b = env.locals := q
        rw [q', (st.ext _ o1 le (fun q => q)).trans lg] at w; cases w
      · exact not_new st la (fun q => q) le (by have q' : b = env.locals := q; rw [← q']; exact w)
      · have q' : b = env.locals := q
        rw [q', new] at w; cases w
    · exact hn q
theorem Thrown.after {B : Base} {l : List Env} {H' : AH} {G0 G G' : St} {h0 h h' : Heap} {e : Addr} {f : Option Addr} (x : Thrown B f l H' G h G' h' e) (st0 : Step B Pure G0 h0 G h) : Thrown B f l H' G0 h0 G' h' e := by
  refine via fun R_ k_ => ?_
  obtain ⟨hr, base, d, m, u, st, I, en, bk, fl, fr, up, dn, dl, mk⟩ := x
  refine k_ ?_
  refine .mk hr base d m u (st0.trans st) I ?_ (fun b o hb hw hn => bk b o hb ?_ hn) fl fr up dn dl mk
  · cases q : h0.get? e with
    | none => rfl
    | some o =>
      obtain ⟨o', q'⟩ := st0.live e o (fun q => q) q
      rw [en] at q'; cases q'
  · rcases hw with w | w | ⟨o0, w⟩
    · exact .inl w
    · exact .inr (.inl w)
    · exact .inr (.inr (st0.live b o0 (fun q => q) w))
end
section
set_option Elab.async false
set_option autoImplicit false
set_option linter.unusedVariables false
set_option maxRecDepth 100000
set_option backward.match.sparseCases false
set_option tactic.hygienic false
set_option genSizeOf false
set_option genInjectivity false
open PySem PySem.W PyProof.Rows PySem.Calls
theorem FrsOk.stepX {B : Base} {X : Addr → Prop} {l : List Env} {G G' : St} {h h' : Heap} (f : FrsOk l G h) (st : Step B X G h G' h') (n : ∀ env ∈ l, ¬ X env.locals) : FrsOk l G' h' := fun env he => by
  refine via fun R_ k_ => ?_
  obtain ⟨a, b, c, d, o, e, k⟩ := f env he
  refine k_ ?_
  have hx := n env he
  exact ⟨a, b, (st.ext _ o e hx).trans c, not_new st d hx e, o, st.keep _ o hx d (fun m => nomatch m) e, k⟩
theorem FrOK.ns {B : Base} {T : Tabs} {sc : Scope} {ns : List (List Nat)} {env : Env} {F : AF} {G : St} {h : Heap} (P : FrOK B T sc ns env F G h) : ∃ m, h.Ns env.locals m := P.loc.imp fun q_ x => x.1
theorem FrOK.frs {B : Base} {T : Tabs} {sc : Scope} {ns : List (List Nat)} {env : Env} {F : AF} {G : St} {h : Heap} (P : FrOK B T sc ns env F G h) {l : List Env} (hf : env.frame = some env.locals) (f : FrsOk l G h) : FrsOk (env :: l) G h := fun x hx => by
  rcases List.mem_cons.mp hx with q | q
  · rw [q]
    refine via fun R_ k_ => ?_
    obtain ⟨m, ⟨o, es, ep, e, d, _⟩, _⟩ := P.loc
    refine k_ ?_
    exact ⟨by rw [P.kind]; exact fun q => (by cases q), hf, P.lg, P.la, o, e, fun vs z => by rw [d] at z; cases z⟩
  · exact f x q
noncomputable def RaX {α : Type} (B : Base) (A : Around) (T : Tabs) (sc : Scope) (ns : List (List Nat)) (env : Env) (l : List Env) (t : Sem α) (m : AF → AM Unit) : Prop :=
  ∀ (F : AF) (s : Shared) (G : St) (H H' : AH), FrOK B T sc ns env F G s.heap → Inv B G H s.heap → m F H = some ((), H') → (∀ G1 h1, Step B (Own sc env) G s.heap G1 h1 → FrsOk l G1 h1) →
  ∀ (Q : α → Shared → Prop) (E : Value → Shared → Prop), (∀ f e G1 h1 G' h' tk', (f = none ∨ f = some env.locals) → Step B (Own sc env) G s.heap G1 h1 → (FrsOk (env :: l) G1 h1 ∧ ∃ m, h1.Ns env.locals m) → Thrown B f (env :: l) H' G1 h1 G' h' e → E (.ref e) { s with heap := h', toks := tk' }) →
    wpAny (model B.prog B.w) A t Q E s
noncomputable def RCall (B : Base) (A : Around) (l : List Env) (rc : Nat → List AV → AM Unit) : Prop :=
  ∀ (s : Shared) (G : St) (H H' : AH) (k : Nat) (xs : List AV) (vs : List Value), Inv B G H s.heap → RepL B G xs vs → rc k xs H = some ((), H') → FrsOk l G s.heap →
    (∃ o fd, s.heap.get? (B.fnA k) = some o ∧ o.data = .func fd) ∧ ∀ (Q : Value → Shared → Prop) (E : Value → Shared → Prop), (∀ e G' h' tk', Thrown B none l H' G s.heap G' h' e → E (.ref e) { s with heap := h', toks := tk' }) →
      wpAny (model B.prog B.w) A (call (.ref (B.fnA k)) vs) Q E s
noncomputable def rthen (k : AF → AM Unit) (p : Flo × AF) : AM Unit := @Flo.rec (fun q_ => AM Unit) (k p.2) (fun q_ => afail) p.1
noncomputable def relse (m k : AM Unit) : AM Unit := fun H => @Option.rec (Unit × AH) (fun q_ => Option (Unit × AH)) (k H) some (m H)
theorem relse_some {m k : AM Unit} {H H' : AH} (e : relse m k H = some ((), H')) : m H = some ((), H') ∨ k H = some ((), H') := by
  unfold relse at e
  cases q : m H with
  | none => rw [q] at e; exact .inr e
  | some r => rw [q] at e; exact .inl e
noncomputable def rwhile (t : AF → AM Bool) (f : AF → AM (Flo × AF)) (r : AF → AM Unit) (n : Nat) : AF → AM Unit := @Nat.rec (fun q_ => AF → AM Unit) (fun q_ => afail) (fun q_ ih F => abind (t F) fun b => cond b (relse (r F) (abind (f F) fun p => rthen ih p)) afail) n
theorem rwhile_succ {t : AF → AM Bool} {f : AF → AM (Flo × AF)} {r : AF → AM Unit} {n : Nat} {F : AF} : rwhile t f r (n + 1) F = abind (t F) fun b => cond b (relse (r F) (abind (f F) fun p => rthen (rwhile t f r n) p)) afail := rfl
section
variable {B : Base} {A : Around} {T : Tabs} {sc : Scope} {ns : List (List Nat)} {env : Env} {l : List Env}
theorem rx_head {x : Stmt} {r : List Stmt} {m : AF → AM Unit} (h : RaX B A T sc ns env l (exec x env) m) : RaX B A T sc ns env l (execs (x :: r) env) m := fun F s G H H' P I eq fs Q E hE =>
  wpAny_execs_cons (h F s G H H' P I eq fs _ _ hE)
theorem rx_cons {x : Stmt} {r : List Stmt} {mx : AF → AM (Flo × AF)} {m : AF → AM Unit} (hx : ExS B A T sc ns env (exec x env) mx) (h : RaX B A T sc ns env l (execs r env) m) : RaX B A T sc ns env l (execs (x :: r) env) (fun F => abind (mx F) fun p => rthen m p) := fun F s G H H' P I eq fs Q E hE => by
  refine via fun R_ k_ => ?_
  obtain ⟨⟨f1, F1⟩, H1, e1, eq⟩ := abind_some eq
  refine k_ ?_
  refine wpAny_execs_cons (hx F s G H f1 F1 H1 P I e1 _ _ fun f G1 h1 t1 s1 I1 P1 r1 => ?_)
  cases f1 with
  | ret v => cases eq
  | next =>
    cases f with
    | next => exact h F1 _ G1 H1 H' P1 I1 eq (fun G2 h2 s2 => fs G2 h2 (s1.trans s2)) _ _ fun f e G2 h2 G' h' tk' hf s2 fo x => hE f e G2 h2 G' h' tk' hf (s1.trans s2) fo x
    | _ => exact r1.elim
theorem rx_if {c : Expr} {a b : List Stmt} {p : Pos} {mc : AF → AM AV} {m : AF → AM Unit} (hc : ∀ F, EvT B A T sc ns env F c (mc F)) (ha : RaX B A T sc ns env l (execs a env) m) : RaX B A T sc ns env l (exec (.If c a b p) env) (fun F => abind (tst (mc F)) fun t => cond t (m F) afail) := fun F s G H H' P I eq fs Q E hE => by
  obtain ⟨t, H1, e1, eq⟩ := abind_some eq
  cases t with
  | false => cases eq
  | true =>
    refine wpAny_If (hc F s G H true H1 P I e1 _ _ fun v G1 h1 t1 s1 I1 P1 r1 => ?_)
    subst r1
    exact ha F _ G1 H1 H' P1 I1 eq (fun G2 h2 s2 => fs G2 h2 (s1.pure.trans s2)) _ _ fun f e G2 h2 G' h' tk' hf s2 fo x => hE f e G2 h2 G' h' tk' hf (s1.pure.trans s2) fo x
theorem rx_ret {e : Expr} {p : Pos} {m : AF → AM Unit} (h : RaX B A T sc ns env l (eval e env) m) : RaX B A T sc ns env l (exec (.Return (some e) p) env) m := fun F s G H H' P I eq fs Q E hE =>
  wpAny_Return_some (h F s G H H' P I eq fs _ _ hE)
theorem rx_expr {e : Expr} {p : Pos} {m : AF → AM Unit} (hc : notComp e = true) (h : RaX B A T sc ns env l (eval e env) m) : RaX B A T sc ns env l (exec (.Expr e p) env) m := fun F s G H H' P I eq fs Q E hE => by
  have hi : interactive env = false := by
    unfold interactive
    rw [P.kind]; rfl
  have hs : swapsWith e none p.line env = pure false := by
    unfold swapsWith
    cases e <;> first | rfl | cases hc
  exact wpAny_Expr (h F s G H H' P I eq fs _ _ hE) hi hs
theorem rx_assign {t e : Expr} {p : Pos} {m : AF → AM Unit} (hc : notComp e = true) (hw : swappedStores [t] e env = pure none) (h : RaX B A T sc ns env l (eval e env) m) : RaX B A T sc ns env l (exec (.Assign [t] e p) env) m := fun F s G H H' P I eq fs Q E hE => by
  have hsw : swapsWithSole [t] e p.line env = pure false := by
    show swapsWith e (some t) p.line env = pure false
    unfold swapsWith
    cases e <;> first | rfl | cases hc
  exact wpAny_Assign_stores (h F s G H H' P I eq fs _ _ hE) hsw hw
theorem rx_while {c : Expr} {a : List Stmt} {p : Pos} {mc : AF → AM AV} {ma : AF → AM (Flo × AF)} {mr : AF → AM Unit} {W : Nat} (hfr : A.frames = some (env :: l)) (hf : env.frame = some env.locals) (hc : ∀ F, EvT B A T sc ns env F c (mc F)) (ha : ExS B A T sc ns env (execs a env) ma) (hr : RaX B A T sc ns env l (execs a env) mr) :
    RaX B A T sc ns env l (exec (.While c a [] p) env) (fun F => rwhile (fun F => tst (mc F)) ma mr W F) := fun F s G H H' P I eq fs Q E hE => by
  refine wpAny_While (codeAny_whileLoop (fun n s' => ∃ F1 G1 H1 h1 t1, s' = { s with heap := h1, toks := t1 } ∧ Step B (Own sc env) G s.heap G1 h1 ∧ Inv B G1 H1 h1 ∧ FrOK B T sc ns env F1 G1 h1 ∧
    rwhile (fun F => tst (mc F)) ma mr n F1 H1 = some ((), H')) (fun n s' hI => ?_) W ⟨F, G, H, s.heap, s.toks, rfl, Step.refl .., I, P, eq⟩)
  obtain ⟨F1, G1, H1, h1, t1, rfl, s1, I1, P1, eq⟩ := hI
  cases n with
  | zero => cases eq
  | succ n =>
    rw [rwhile_succ] at eq
    obtain ⟨b, H2, e1, eq⟩ := abind_some eq
    refine hc F1 _ G1 H1 b H2 P1 I1 e1 _ _ fun v G2 h2 t2 s2 I2 P2 r2 => ?_
    subst r2
    cases v with
    | false => cases eq
    | true =>
      rcases relse_some eq with q | eq
      · refine hr F1 _ G2 H2 _ P2 I2 q (fun G3 h3 s3 => fs G3 h3 (s1.trans (s2.pure.trans s3))) _ _ fun f e G3 h3 G' h' tk' hff s3 fo x => ?_
        exact thrown_back (E := E) (s := { s with heap := h', toks := tk' }) hfr hf hff x fun h'' y => hE _ e G3 h3 G' h'' tk' (.inr rfl) (s1.trans (s2.pure.trans s3)) fo y
      · refine via fun R_ k_ => ?_
        obtain ⟨⟨f1, F2⟩, H3, e3, eq⟩ := abind_some eq
        refine k_ ?_
        refine ha F1 _ G2 H2 f1 F2 H3 P2 I2 e3 _ _ fun f G3 h3 t3 s3 I3 P3 r3 => ?_
        cases f1 with
        | ret v => cases eq
        | next =>
          cases f with
          | next => exact ⟨n, Nat.lt_succ_self n, F2, G3, H3, h3, t3, rfl, s1.trans (s2.pure.trans s3), I3, P3, eq⟩
          | _ => exact r3.elim
end
end
section
set_option Elab.async false
set_option autoImplicit false
set_option linter.unusedVariables false
set_option maxRecDepth 100000
set_option backward.match.sparseCases false
set_option tactic.hygienic false
set_option genSizeOf false
set_option genInjectivity false
open PySem PySem.W PyProof.Rows PySem.Calls
noncomputable def fnOf : AV → Option Nat
  | .fn k => some k
  | _ => none
theorem fnOf_some {x : AV} {k : Nat} (h : fnOf x = some k) : x = .fn k := by
  cases x with
  | fn j => cases h; rfl
  | _ => cases h
noncomputable def rcOne (k0 : Nat) (f : IFn) (m : AF → AM Unit) (k : Nat) (xs : List AV) : AM Unit := cond (Nat.beq k k0) (abind (aopt (frameOf f.names.length f.np xs [])) m) afail
section
variable {B : Base} {A : Around} {call' : Orc} (y : Hyp B A call') {T : Tabs} {sc : Scope} {ns : List (List Nat)} {env : Env} {l : List Env}
include y
theorem rx_raise {ki : Nat} (FO : FailOk B ki) (IO : IniOk B ki) (hroom : A.depth + 1 < recursionLimit) (hf : env.frame = some env.locals) {g : XE} {es : List XE} {x : Stmt} (h : (s_raise (n_call g es)).mt T sc ns x = true)
    {k2 : List Nat} (e1 : ∀ F H, g.ev B.Gl call' F H = some (.cls .fail, H)) (e2 : ∀ F H, evs B.Gl call' F es H = some ([.str rangeE, .str k2], H)) : RaX B A T sc ns env l (exec x env) (fun q_ => apure ()) := fun F s G H H' P I eq fs Q E hE => by
  obtain ⟨_, hq⟩ := apure_some eq
  rw [hq] at hE
  refine raise_run y FO IO hroom h P I (e1 F H) (e2 F H) fun G1 h1 e t d m sl u h' tk' st I1 P1 en he dn mk kp dw => ?_
  exact hE none e G s.heap G1 h' tk' (.inl rfl) (Step.refl ..) ⟨P.frs hf (fs G s.heap (Step.refl ..)), P.ns⟩ (thrown_new st I1 (P1.frs hf (fs G1 h1 st.pure)) en he dn mk kp dw)
theorem rx_call {rc : Nat → List AV → AM Unit} (R : RCall B A (env :: l) rc) (hf : env.frame = some env.locals) {g : XE} {es : List XE} {x : Expr} (h : (n_call g es).mt T sc ns x = true) :
    RaX B A T sc ns env l (eval x env) (fun F => abind (g.ev B.Gl call' F) fun v => abind (evs B.Gl call' F es) fun xs => abind (aopt (fnOf v)) fun k => rc k xs) := fun F s G H H' P I eq fs Q E hE => by
  obtain ⟨gx, xs, ks, p, rfl, hc⟩ := onCall_i (f := _) h
  have h := and_i (and_i hc).1
  have h3 := h.2
  have h := and_i h.1
  have h2 := h.2
  have h := and_i h.1
  have e0 := on0_i h.1
  subst e0
  have pr := pairE y env F h2
  obtain ⟨cn, np, rfl, _⟩ := onName_i (f := _) h3
  obtain ⟨v, H1, e1, eq⟩ := abind_some eq
  obtain ⟨vs, H2, e2, eq⟩ := abind_some eq
  obtain ⟨k, ek, eq⟩ := abind_opt eq
  have ek := fnOf_some ek
  subst ek
  refine wpAny_Call_NameR ((g.ok y h.2 env F).1 s G H _ H1 P I e1 _ _ fun u G1 h1 t1 s1 I1 P1 r1 => callWith_any (noStar_trees pr.noStar).1 ?_)
  refine pr.evL (p := p) _ G1 H1 _ H2 P1 I1 e2 _ _ fun us G2 h2 t2 s2 I2 P2 r2 => ?_
  rw [show u = .ref (B.fnA k) from r1]
  have fo := P2.frs hf (fs G2 h2 (s1.trans s2).pure)
  refine via fun R_ k_ => ?_
  obtain ⟨⟨o2, fd, f1, f2⟩, w⟩ := R { s with heap := h2, toks := t2 } G2 H2 H' k vs us I2 r2 eq fo
  refine k_ ?_
  exact ⟨.func f1 f2, w _ _ fun e G' h' tk' x => hE none e G2 h2 G' h' tk' (.inl rfl) (s1.trans s2).pure ⟨fo, P2.ns⟩ x⟩
theorem rx_own {rc : Nat → List AV → AM Unit} (R : RCall B A (env :: l) rc) (hf : env.frame = some env.locals) {o : XE} {k : Nat} {es : List XE} {x : Expr} (h : (n_own o k es).mt T sc ns x = true) :
    RaX B A T sc ns env l (eval x env) (fun F => abind (o.ev B.Gl call' F) fun v => abind (aclsOf v) fun c => abind (aopt (B.Gl.mth c k)) fun j => abind (evs B.Gl call' F es) fun xs => rc j (v :: xs)) := fun F s G H H' P I eq fs Q E hE => by
  obtain ⟨g, es', ks, pos, rfl, h⟩ := onCall_i (f := _) h
  have h := and_i h
  have e := on0_i h.1
  subst e
  refine onAttribute_e h.2 fun ov n apos hh => ?_
  have h := and_i hh
  have hb := h.2
  have h := and_i h.1
  have hlen := of_decide_eq_true h.2
  have h := and_i h.1
  have hp : (apos.endLine == pos.line) = true := h.2
  have h := and_i h.1
  have h3 := h.2
  have h := and_i h.1
  refine via fun R_ k_ => ?_
  obtain ⟨nm, hn, hnm⟩ := isNm_i h.1
  have pr := pairE y env F h3
  have ho := (o.ok y h.2 env F).1
  obtain ⟨x, H1, e1, eq⟩ := abind_some eq
  obtain ⟨c, H2, e2, eq2⟩ := abind_some eq
  obtain ⟨j, e3x, eq3⟩ := abind_opt eq2
  obtain ⟨xs, H4, e4, eq4⟩ := abind_some eq3
  refine k_ ?_
  clear eq eq2 eq3
  rw [isS_eq hnm]
  rw [arm_eval_Call, base_name hb]
  refine wpAny_bind (ho s G H x H1 P I e1 _ _ fun v G1 h1 t1 s1 I1 P1 r1 => wpAny_bind (wpAny_standAt ?_))
  have hform : methodCallForm (es'.length + ([] : List Keyword).length) (backTo pos (starEach es' env)) (backToKw pos (keywordEach [] env)) = true := few_args pr.noStar hlen
  have hpos : methodCallPos true ov env apos pos = pure pos := by unfold methodCallPos; simp [hp]
  unfold methodCall
  rw [hform]
  refine via fun R_ k_ => ?_
  obtain ⟨⟨i, c', fs'⟩, H5, e5, e6⟩ := abind_some e2
  refine k_ ?_
  clear e2
  obtain ⟨rfl, hH, hc, rfl⟩ := ainst_some e5
  cases e6
  obtain ⟨p, hp', rfl⟩ := r1
  obtain ⟨m, Im, hm, hy⟩ := inst_at (s := { s with heap := h1, toks := t1 }) I1 hH hp'
  obtain ⟨mN, CA⟩ := y.K c' hc
  obtain ⟨cr, hC, hN, hNt⟩ := CA.obj
  obtain ⟨n', yy, a1, a2, a3, a4, o', a5, a6, a7⟩ := CA.mth k j e3x
  have en : n' = nm := by
    rw [P.tm] at hn
    rw [hn] at a1; cases a1; rfl
  subst en
  have hsh : m (toS n') = none := by
    cases hq : m (toS n') with
    | none => rfl
    | some w =>
      obtain ⟨f, ef⟩ := hy (toS n') (by rw [hq]; simp)
      exact absurd ef.symm (a4 f)
  refine wpAny_bind (wpAny_holding (method_of (I1.sub _ _ (I1.old _ _ hC CA.tab)) (I1.ns hNt hN) CA.gab CA.gat a2 (I1.sub _ _ (I1.old _ _ a5 a6)) a7 a3 Im hsh ?_))
  refine wpAny_bind (wpAny_of_eq hpos ?_)
  refine callWith_fst (noStar_trees pr.noStar).1 ?_
  refine pr.evL (p := pos) _ G1 _ xs H4 P1 I1 e4 _ _ fun vs G2 h2 t2 s2 I2 P2 r2 => ?_
  have rx : Rep B G2 (.obj i) (.ref p.1) := ⟨p, s2.alAt hp', rfl⟩
  have fo := P2.frs hf (fs G2 h2 (s1.trans s2).pure)
  refine via fun R_ k_ => ?_
  obtain ⟨c, w⟩ := R { s with heap := h2, toks := t2 } G2 H4 H' j (.obj i :: xs) (.ref p.1 :: vs) I2 ⟨_, _, rfl, rx, r2⟩ eq4 fo
  obtain ⟨o2, fd, f1, f2⟩ := c
  refine k_ ?_
  exact ⟨⟨_, o2, fd, rfl, f1, f2⟩, w _ _ fun e G' h' tk' x => hE none e G2 h2 G' h' tk' (.inl rfl) (s1.trans s2).pure ⟨fo, P2.ns⟩ x⟩
end
theorem rcall_one {B : Base} {A : Around} {l : List Env} (O : BaseOk B) {k0 : Nat} {f : IFn} (FO : FnOK B k0 f) (hroom : A.depth < recursionLimit) (hfr : A.frames = some l) {m : AF → AM Unit}
    (hbody : ∀ (T : Tabs) (sc : Scope) (body : List Stmt) (env : Env), mSs T sc f.names f.body body = true → env.scope.kind = .function → env.frame = some env.locals → (A.deeper env).frames = some (env :: l) → RaX B (A.deeper env) T sc f.names env l (execs body env) m) : RCall B A l (rcOne k0 f m) := fun s G H H' k xs vs I rs eq fs => by
  cases hk : Nat.beq k k0 with
  | false =>
    unfold rcOne at eq
    rw [hk] at eq; cases eq
  | true =>
    have e := Nat.eq_of_beq_eq_true hk
    subst e
    unfold rcOne at eq
    rw [hk] at eq
    refine via fun R_ k_ => ?_
    obtain ⟨F, e3, e4⟩ := abind_opt (show abind (aopt (frameOf f.names.length f.np xs [])) m H = _ from eq)
    obtain ⟨fd, T, body, C, hb, hm, bind⟩ := FO
    obtain ⟨o, ho, hd⟩ := C.obj
    refine k_ ?_
    have hlen : vs.length = f.np := by rw [rs.len, (frame_some e3).1]
    refine ⟨⟨o, fd, I.sub _ _ (I.old _ _ ho C.tab), hd⟩, fun Q E hE => ?_⟩
    refine enter_top O C hb e3 I rs (bind s G H vs I hlen) hroom fun env G1 h1 tk1 hsc hf fresh st1 I1 P1 => ?_
    have hfr' := Around.frames_deeper (env := env) hfr
    have fs1 : ∀ G2 h2, Step B (Own fd.scope env) G1 h1 G2 h2 → FrsOk l G2 h2 := fun G2 h2 s2 => (fs.step st1).stepX s2 fun x hx hy => by
      refine via fun R_ k_ => ?_
      obtain ⟨_, _, _, _, o, e, _⟩ := fs x hx
      refine k_ ?_
      rw [fresh _ hy] at e; cases e
    refine hbody T fd.scope body env hm (by rw [hsc]; exact (scopeOk_iff C.sc).kind) hf hfr' F _ G1 H H' P1 I1 e4 fs1 _ _ fun fl e G2 h2 G' h' tk' hff s2 fo x => ?_
    have st0 := (st1.pure.trans s2).shut fresh
    refine via fun R_ k_ => ?_
    obtain ⟨_, _, lg, la, oe, le, _⟩ := fo.1 env (.head _)
    refine k_ ?_
    unfold leaving
    refine wpAny_bind (thrown_leaves (s := { s with heap := h', toks := tk' }) hfr' hf hff x fun h'' z => ?_)
    exact hE e G' h'' tk' (z.shift st0 (fresh _ (.inl rfl)) lg la ⟨oe, le⟩)
end
section
set_option Elab.async false
set_option autoImplicit false
set_option linter.unusedVariables false
set_option maxRecDepth 100000
set_option backward.match.sparseCases false
set_option tactic.hygienic false
set_option genSizeOf false
set_option genInjectivity false
open PySem PySem.W PyProof.Rows PySem.Calls
structure Calm (B : Base) (env : Env) (l : List Env) (G0 : St) (h0 : Heap) (H : AH) (G : St) (h : Heap) : Prop where
  st : Step B (fun b => b ∈ locs (env :: l)) G0 h0 G h
  I : Inv B G H h
  off : ∀ a ∈ locs (env :: l), G.g a = none ∧ a ∉ G.adr ∧ ∃ o, h.get? a = some o
  up : ∀ a ∈ locs l, ∀ o, h0.get? a = some o → (∀ vs, o.data ≠ .fields vs) → ∃ sl, h.get? a = some { o with slots := sl }
theorem Calm.same {B : Base} {env : Env} {l : List Env} {G0 G : St} {h0 h h' : Heap} {H : AH} (c : Calm B env l G0 h0 H G h) (nl : env.locals ∉ locs l) (s : Heap.SameBut env.locals h h') (l' : ∃ o, h'.get? env.locals = some o) : Calm B env l G0 h0 H G h' := by
  have ne : ∀ b, ¬ b ∈ locs (env :: l) → b ≠ env.locals := fun b n q => n (q ▸ .head _)
  refine ⟨⟨fun b o n e => ?_, c.st.mono, c.st.ext, c.st.al, fun b o n h1 h2 e => (s.2 b (ne b n)).trans (c.st.keep b o n h1 h2 e)⟩, c.I.keeps fun b o w e => (s.2 b fun q => ?_).trans e, fun a ha => ?_, fun a ha o q n => ?_⟩
  · obtain ⟨o', q⟩ := c.st.live b o n e
    exact ⟨o', (s.2 b (ne b n)).trans q⟩
  · obtain ⟨x, y, _⟩ := c.off env.locals (.head _)
    rcases w with w | w | w
    · rw [q, x] at w; cases w
    · rw [q] at w; exact y w
    · cases w
  · obtain ⟨x, y, o, z⟩ := c.off a ha
    refine ⟨x, y, ?_⟩
    by_cases q : a = env.locals
    · rw [q]; exact l'
    · exact ⟨o, (s.2 a q).trans z⟩
  · obtain ⟨sl, z⟩ := c.up a ha o q n
    exact ⟨sl, (s.2 a fun e => nl (e ▸ ha)).trans z⟩
theorem Calm.step {B : Base} {env : Env} {l : List Env} {G0 G G' : St} {h0 h h' : Heap} {H H' : AH} (c : Calm B env l G0 h0 H G h) (s : Step B Pure G h G' h') (I : Inv B G' H' h') : Calm B env l G0 h0 H' G' h' := by
  refine ⟨c.st.trans s.pure, I, fun a ha => ?_, fun a ha o q n => ?_⟩
  · obtain ⟨x, y, o, z⟩ := c.off a ha
    exact ⟨(s.ext _ o z (fun q => q)).trans x, not_new s y (fun q => q) z, o, s.keep a o (fun q => q) y (fun m => nomatch m) z⟩
  · obtain ⟨sl, z⟩ := c.up a ha o q n
    exact ⟨sl, s.keep a _ (fun q => q) (c.off a (.tail _ ha)).2.1 (fun m => nomatch m) z⟩
section
variable {B : Base} {f : Option Addr} {l : List Env} {H' : AH} {G G' : St} {h h' : Heap} {e : Addr}
theorem Thrown.calm {env : Env} (x : Thrown B f (env :: l) H' G h G' h' e) (fo : FrsOk (env :: l) G h) : Calm B env l G h H' G' h' := by
  refine via fun R_ k_ => ?_
  obtain ⟨hr, base, d, m, u, st, I, en, bk, ⟨oe, vs, hd, stay, _⟩, fr, up, dn, dl, mk⟩ := x
  refine k_ ?_
  have fo' := fo.step st
  have k : ∀ b o, hr.get? b = some o → (G'.g b = some o ∨ b ∈ G'.adr ∨ ∃ o0, h.get? b = some o0) → b ∉ locs (env :: l) → h'.get? b = some o := fun b o e w n => stay b o (bk b o e w n)
  have off : ∀ b, b ∈ locs (env :: l) → G'.g b = none ∧ b ∉ G'.adr ∧ ∃ o, h'.get? b = some o := fun b hb => by
    refine via fun R_ k_ => ?_
    obtain ⟨x, hx, q⟩ := List.mem_map.mp hb
    obtain ⟨_, _, c, d, o, z, n⟩ := fo' x hx
    refine k_ ?_
    rw [← q]
    obtain ⟨sl, w⟩ := up x.locals (List.mem_map_of_mem hx) o z n
    exact ⟨c, d, _, w⟩
  refine ⟨⟨fun b o n q => ?_, st.mono, fun b o q n => st.ext b o q (fun q => q), st.al.imp fun q_ y => ⟨y.1, fun a ha q_ => y.2 a ha (fun q => q)⟩, fun b o n h1 h2 q => k b o (st.keep b o (fun q => q) h1 h2 q) (.inr (.inr ⟨o, q⟩)) n⟩, I.keeps fun b o w q => ?_, off, fun a ha o q n => ?_⟩
  · obtain ⟨o', q'⟩ := st.live b o (fun q => q) q
    exact ⟨o', k b o' q' (.inr (.inr ⟨o, q⟩)) n⟩
  · rcases w with w | w | w
    · exact k b o q (.inl w) fun hb => by rw [(off b hb).1] at w; cases w
    · exact k b o q (.inr (.inl w)) fun hb => (off b hb).2.1 w
    · cases w
  · refine via fun R_ k_ => ?_
    obtain ⟨x, hx, e⟩ := List.mem_map.mp ha
    obtain ⟨_, _, _, la, _⟩ := fo x (.tail _ hx)
    refine k_ ?_
    exact up a (.tail _ ha) o (st.keep _ o (fun q => q) (by rw [← e]; exact la) (fun m => nomatch m) q) n
theorem Thrown.names {env : Env} {m : Str → Option Value} (x : Thrown B f (env :: l) H' G h G' h' e) (fo : FrsOk (env :: l) G h) (n : h.Ns env.locals m) : h'.Ns env.locals m := by
  refine via fun R_ k_ => ?_
  obtain ⟨hr, base, d, m', u, st, I, en, bk, fl, fr, up, dn, dl, mk⟩ := x
  obtain ⟨o, es, ep, e, dd, r⟩ := n
  obtain ⟨_, _, _, la, _⟩ := fo env (.head _)
  refine k_ ?_
  obtain ⟨sl, q⟩ := up env.locals (.head _) o (st.keep _ o (fun q => q) la (fun m => nomatch m) e) (fun vs z => by rw [dd] at z; cases z)
  exact ⟨_, es, ep, q, dd, r⟩
theorem Thrown.inst {env : Env} (x : Thrown B f (env :: l) H' G h G' h' e) (fo : FrsOk (env :: l) G h) : ∃ d m u oe, h'.get? e = some oe ∧ oe.cls = .ref (B.clA .fail) ∧ (∀ c, oe.data ≠ .cls c) ∧ oe.dict = some d ∧ d ≠ e ∧ e ≠ env.locals ∧ d ≠ env.locals ∧ h'.Ns1 d m ∧ m Fld.kind.name = some (.str (toS rangeE) u) := by
  refine via fun R_ k_ => ?_
  obtain ⟨hr, base, d, m, u, st, I, en, bk, ⟨oe, vs, hd, stay, _, he, hc, hdc, hdt, _⟩, fr, up, dn, dl, mk⟩ := x
  obtain ⟨_, _, _, _, o, le, _⟩ := fo env (.head _)
  refine k_ ?_
  refine ⟨d, m, u, oe, he, hc, (fun c q => by rw [hdt] at q; cases q), hdc, (fun q => ?_), (fun q => ?_), (fun q => dl (q ▸ .head _)), dn, mk⟩
  · refine via fun R_ k_ => ?_
    obtain ⟨o', es, ep, a, b, _⟩ := dn
    refine k_ ?_
    rw [q, he] at a; cases a
    rw [hdt] at b; cases b
  · rw [← q, en] at le; cases le
theorem flight_none {M : Model} {A : Around} {E : Value → Shared → Prop} {s : Shared} {base : Heap} {C d : Addr} {Q : Unit → Shared → Prop} (x : Fly base e C d none s.heap) (h : ∀ h', Fly base e C d none h' → UpSl s.heap h' → Q () { s with heap := h' }) : wpAny M A (setFlight (.ref e) none) Q E s := by
  have x' := x
  refine via fun R_ k_ => ?_
  obtain ⟨oe, vs, hd, stay, en, he, hc, hdc, hdt, h1, head⟩ := x
  refine k_ ?_
  rcases head with ⟨rfl, _⟩ | ⟨T, oT, ts, rfl, nT, hTe, hT, hdT, h3⟩
  · unfold setFlight
    refine wpAny_bind (wpAny_field he hdt h1 ?_)
    rw [if_neg (by decide)]
    exact wpAny_pure (h s.heap x' fun b o e q_ => ⟨o.slots, e⟩)
  unfold setFlight
  refine wpAny_bind (wpAny_field he hdt h1 ?_)
  rw [if_pos (show (Value.ref T != Value.none) = true from by simp)]
  have hz := (Array.getElem?_eq_some_iff.mp h3).1
  refine wpAny_setField hT hdT hz (h _ (.mk oe vs _ (fun b o hbo => ?_) en ?_ hc hdc hdt h1 (.inr ⟨T, _, _, rfl, nT, hTe, Heap.get?_update_self _ hT (Obj.isFreed_of_fields (Obj.data_mapFields hdT _)), Obj.data_mapFields hdT _, by simp [hz]⟩)) fun b o hb hnf => ⟨o.slots, ?_⟩)
  · rw [Heap.get?_update_other _ _ (fun q => by rw [← q, nT] at hbo; cases hbo)]
    exact stay b o hbo
  · rw [Heap.get?_update_other _ _ hTe]; exact he
  · rw [Heap.get?_update_other _ _ (fun q => by rw [← q, hT] at hb; cases hb; exact hnf ts hdT)]
    exact hb
theorem thrown_still {M : Model} {A : Around} {E : Value → Shared → Prop} {s : Shared} {Q : Unit → Shared → Prop} (x : Thrown B none l H' G h G' s.heap e)
    (hQ : ∀ h', Thrown B none l H' G h G' h' e → Q () { s with heap := h' }) : wpAny M A (setFlight (.ref e) none) Q E s :=
  x.on (f' := none) fun base d fl fr k => flight_none fl fun h' a b => hQ h' (k h' a b)
end
end
section
set_option Elab.async false
set_option autoImplicit false
set_option linter.unusedVariables false
set_option maxRecDepth 100000
set_option backward.match.sparseCases false
set_option tactic.hygienic false
set_option genSizeOf false
set_option genInjectivity false
open PySem PySem.W PyProof.Rows PySem.Calls
noncomputable abbrev jsFail : List Nat := [74, 83, 70, 97, 105, 108]
theorem jsFail_dbg : (toS jsFail == ("__debug__" : Str)) = false := by decide +kernel
theorem range_eq : acmp .eq (.str rangeE) (.str rangeE) = some true := by kernel_rfl
noncomputable abbrev kindIs (i : Nat) : XS := s_ret (n_cmp OpC.eq (n_attr (n_var i) Fld.kind) (n_str rangeE))
theorem suite_i {T : Tabs} {sc : Scope} {ns : List (List Nat)} {i : Nat} {xs : List Stmt} (h : mSs T sc ns [kindIs i] xs = true) : ∃ z p1 p2 q k p4 p5 p6 n, xs = [.Return (some (.Compare (.Attribute (.Name z p1) Fld.kind.name p2) [OpC.eq.op] [.Constant (.str q) k p4] p5)) p6] ∧ ns[i]? = some n ∧ z = toS n ∧ q = toS rangeE ∧ (z == ("__debug__" : Str)) = false ∧ behindInMarks OpC.eq.op (.Constant (.str q) k p4) = false := by
  refine onC_e (f := _) h fun x r ha => ?_
  clear h
  have ha := and_i ha
  cases on0_i (show on0 r = true from ha.2)
  obtain ⟨o, p6, rfl, hb⟩ := stReturn_i (f := _) ha.1
  clear ha
  refine onS_e hb fun z hc => ?_
  clear hb
  obtain ⟨l, ps, rs, p5, rfl, hd⟩ := onCompare_i (f := _) hc
  clear hc
  refine on1_e hd fun q he => ?_
  clear hd
  refine on1_e he fun r hf => ?_
  clear he
  have h := and_i hf
  clear hf
  have g := and_i h.1
  have k := and_i g.1
  have e := opC_eq k.1
  subst e
  obtain ⟨v, n, p2, rfl, h1⟩ := onAttribute_i (f := _) k.2
  have h1 := and_i h1
  have g1 := and_i h1.1
  have e := of_decide_eq_true g1.1
  subst e
  obtain ⟨id, p1, rfl, h2⟩ := onName_i (f := _) g1.2
  have h2 := and_i (and_i h2).1
  obtain ⟨n, hn, hx⟩ := isNm_i (and_i h2.1).1
  obtain ⟨c, kk, p4, rfl, h3⟩ := onConstant_i (f := _) g.2
  refine coStr_e (and_i h3).1 fun d hd => ?_
  exact ⟨id, p1, p2, d, kk, p4, p5, p6, n, rfl, hn, isS_eq hx, isS_eq hd, not_i h2.2, not_i h.2⟩
section
variable {B : Base} {A : Around} {call' : Orc} {T : Tabs} {sc : Scope} {ns : List (List Nat)} {env : Env} {l : List Env}
theorem met_ok (y : Hyp B A call') {ki : Nat} (FO : FailOk B ki) {kf : Nat} (hg : B.T.gnames[kf]? = some jsFail) (hv : B.Gl.val kf = some (.cls .fail)) {F : AF} {G0 : St} {h0 : Heap} (P : FrOK B T sc ns env F G0 h0)
    {s : Shared} {G G' : St} {h : Heap} {H' : AH} {e : Addr} (fo : FrsOk (env :: l) G h) {m0 : Str → Option Value} (ns0 : h.Ns env.locals m0) (x : Thrown B none (env :: l) H' G h G' s.heap e)
    (nl : env.locals ∉ locs l) {c z : Str} {cp hp : Pos} {suite : List Stmt} {i : Nat} (h1 : isS jsFail c = true) (h2 : isKind sc c .globalImplicit = true) (h3 : isNm ns i z = true) (h4 : isKind sc z .local = true) (hs : mSs T sc ns [kindIs i] suite = true)
    {Q : Flow → Shared → Prop} {E : Value → Shared → Prop} (hQ : ∀ G' h' tk', Calm B env l G h H' G' h' → Q (.ret (.bool true)) { s with heap := h', toks := tk' }) :
    wpAny (model B.prog B.w) A (handleBy (.ref e) env [.ExceptHandler (some (.Name c cp)) (some z) suite hp]) Q E s := by
  obtain ⟨cr, mN, hC, hN, ini, gab, gat, sat, fld, fn⟩ := FO
  have old : ∀ {G1 : St} {H1 : AH} {h1 : Heap}, Inv B G1 H1 h1 → ∀ b o, B.h₀.get? b = some o → h1.get? b = some o := fun I1 b o e => I1.sub _ _ (I1.old _ _ e (fun m => nomatch m))
  have e1 := isS_eq h1
  subst e1
  have kz : env.kindOf z = some .local := P.kl _ h4
  have hpc : (env.scope.kind == .class || (env.scope.kind == .module && env.locals != env.globals)) = false := by rw [P.kind]; rfl
  have cal := x.calm fo
  refine via fun R_ k_ => ?_
  obtain ⟨n', u, a, b, r⟩ := y.O.val kf _ hv
  refine k_ ?_
  rw [hg] at a; cases a
  have hu : u = .ref (B.clA .fail) := r G' cal.I.old
  subst hu
  refine wpAny_handleBy_cons (codeAny_handlers_test (wpAny_Name ?_ jsFail_dbg)) (by intro q; cases q)
  rw [loadName_read P.kind (P.kg _ h2)]
  have g1 : s.heap.Ns env.globals B.mg := P.glb ▸ cal.I.ns y.O.glbT y.O.glb
  have g2 : s.heap.Ns env.builtins B.mb := P.blt ▸ cal.I.ns y.O.bltT y.O.blt
  have load : ∀ {Q : Value → Shared → Prop} {A : Around} {E : Value → Shared → Prop}, Q (.ref (B.clA .fail)) s → wpAny (model B.prog B.w) A (loadGlobal env (toS jsFail)) Q E s := fun q => by
    rcases b with b | ⟨b1, b2⟩
    · exact loadGlobal_global g1 b q
    · exact loadGlobal_builtin g1 b1 g2 b2 q
  refine load ?_
  refine via fun R_ k_ => ?_
  obtain ⟨d, m, u, oe, he, hcl, hnc, hdc, hde, hel, hdl, hns, hk⟩ := x.inst fo
  refine k_ ?_
  refine wpAny_excMatches_sub_self (old cal.I _ _ hC) he hcl rfl ?_
  obtain ⟨z', p1, p2, q', k, p4, p5, p6, n, rfl, hn, ez, rfl, hdb, hbm⟩ := suite_i hs
  obtain ⟨n2, hn2, hz⟩ := isNm_i h3
  rw [hn] at hn2; cases hn2
  have e2 := isS_eq hz
  rw [← ez] at e2
  subst e2
  refine codeAny_handlers_suite_as (thrown_still x fun h3 x3 => ?_)
  refine wpAny_storeName_local (s := { s with heap := h3 }) kz (x3.names fo ns0) (fun h4 ns4 sb4 => ?_) hpc
  have cal3 := x3.calm fo
  have cal4 := cal3.same nl sb4 (by obtain ⟨o, _, _, q, _⟩ := ns4; exact ⟨o, q⟩)
  refine via fun R_ k_ => ?_
  obtain ⟨d, m, u, oe, he, hcl, hnc, hdc, hde, hel, hdl, hns, hk⟩ := x3.inst fo
  refine k_ ?_
  have inst4 : h4.Inst e (B.clA .fail) m := ⟨oe, (sb4.2 e hel).trans he, hcl, hnc, .inr ⟨d, hdc, hde, by
    refine via fun R_ k_ => ?_
    obtain ⟨o, es, ep, a, r⟩ := hns
    refine k_ ?_
    exact ⟨o, es, ep, (sb4.2 d hdl).trans a, r⟩⟩⟩
  have hN4 : h4.Ns cr.N mN := by
    refine via fun R_ k_ => ?_
    obtain ⟨o, es, ep, a, r⟩ := hN
    refine k_ ?_
    exact ⟨o, es, ep, old cal4.I _ _ a, r⟩
  refine wpAny_execs_cons (wpAny_Return_some (wpAny_Compare1 (Attribute_Name_ (name_at P.kind kz ns4 (if_pos rfl) hdb ?_)) hbm))
  refine exc_attr (old cal4.I _ _ hC) hN4 gab gat (fld .kind) (fld_exc .kind) inst4 hk rfl (wpAny_Constant_str ?_)
  refine op_cmp (s := { s with heap := h4, toks := _ }) (A := A.mark _) range_eq y.hu cal4.I ⟨_, rfl⟩ ⟨_, rfl⟩ _ _ fun v G5 h5 t5 s5 I5 r5 => ?_
  rw [show v = .bool true from r5]
  refine via fun R_ k_ => ?_
  obtain ⟨o4, es4, ep4, a4, r4⟩ := ns4
  refine k_ ?_
  have cal5 := cal4.step s5 I5
  have ns5 : h5.Ns env.locals _ := ⟨o4, es4, ep4, s5.keep _ o4 (fun q => q) (cal4.off _ (.head _)).2.1 (fun m => nomatch m) a4, r4⟩
  refine wpAny_nameGoes (s := { s with heap := h5, toks := t5 }) kz ns5 hpc fun h6 m6 ns6 sb6 => ?_
  exact hQ G5 h6 _ (cal5.same nl sb6 (by obtain ⟨o, _, _, q, _⟩ := ns6; exact ⟨o, q⟩))
end
end
section
set_option Elab.async false
set_option autoImplicit false
set_option linter.unusedVariables false
set_option maxRecDepth 100000
set_option backward.match.sparseCases false
set_option tactic.hygienic false
set_option genSizeOf false
set_option genInjectivity false
open PySem PySem.W PyProof.Rows PySem.Calls
section
variable {B : Base} {A : Around} {call' : Orc} (y : Hyp B A call') {T : Tabs} {sc : Scope} {ns : List (List Nat)} {env : Env} {l : List Env}
include y
theorem rxs_head {s : XS} {r : List XS} {body : List Stmt} {m : AF → AM Unit} (h : mSs T sc ns (s :: r) body = true) (hx : ∀ x, s.mt T sc ns x = true → RaX B A T sc ns env l (exec x env) m) : RaX B A T sc ns env l (execs body env) m := by
  refine onC_e (f := _) h fun x xs h => ?_
  exact rx_head (hx x (and_i h).1)
theorem rxs_cons {W : Nat} (hk : env.scope.kind = .function) {s : XS} {r : List XS} {body : List Stmt} {m : AF → AM Unit} (h : mSs T sc ns (s :: r) body = true) (hr : ∀ xs, mSs T sc ns r xs = true → RaX B A T sc ns env l (execs xs env) m) :
    RaX B A T sc ns env l (execs body env) (fun F => abind (s.ex B.Gl call' W F) fun p => rthen m p) := by
  refine onC_e (f := _) h fun x xs h => ?_
  have h := and_i h
  exact rx_cons (s.ok y W h.1 env hk) (hr xs h.2)
theorem rxs_if {c : XE} {a b : List XS} {x : Stmt} {m : AF → AM Unit} (h : (s_if c a b).mt T sc ns x = true) (ha : ∀ xs, mSs T sc ns a xs = true → RaX B A T sc ns env l (execs xs env) m) :
    RaX B A T sc ns env l (exec x env) (fun F => abind (tst (c.ev B.Gl call' F)) fun t => cond t (m F) afail) := by
  obtain ⟨t, u, v, p, rfl, h⟩ := stIf_i (f := _) h
  have h := and_i h
  have g := and_i h.1
  exact rx_if (fun F => (c.ok y g.1 env F).2) (ha u g.2)
theorem rxs_while {W : Nat} (hk : env.scope.kind = .function) (hfr : A.frames = some (env :: l)) (hf : env.frame = some env.locals) {c : XE} {a : List XS} {x : Stmt} {m : AF → AM Unit} (h : (s_while c a).mt T sc ns x = true) (ha : ∀ xs, mSs T sc ns a xs = true → RaX B A T sc ns env l (execs xs env) m) :
    RaX B A T sc ns env l (exec x env) (fun F => rwhile (fun F => tst (c.ev B.Gl call' F)) (exs B.Gl call' W a) m W F) := by
  obtain ⟨t, u, v, p, rfl, h⟩ := stWhile_i (f := _) h
  have h := and_i h
  have g := and_i h.1
  cases on0_i g.1
  exact rx_while hfr hf (fun F => (c.ok y g.2 env F).2) (exs_ok y W hk h.2) (ha u h.2)
omit y in
theorem rxs_ret {e : XE} {x : Stmt} {m : AF → AM Unit} (h : (s_ret e).mt T sc ns x = true) (he : ∀ z, e.mt T sc ns z = true → RaX B A T sc ns env l (eval z env) m) : RaX B A T sc ns env l (exec x env) m := by
  obtain ⟨o, p, rfl, h⟩ := stReturn_i (f := _) h
  refine onS_e h fun z h => ?_
  exact rx_ret (he z h)
omit y in
theorem rxs_expr {e : XE} {x : Stmt} {m : AF → AM Unit} (h : (s_expr e).mt T sc ns x = true) (he : ∀ z, e.mt T sc ns z = true → RaX B A T sc ns env l (eval z env) m) : RaX B A T sc ns env l (exec x env) m := by
  obtain ⟨z, p, rfl, h⟩ := stExpr_i (f := _) h
  have h := and_i h
  exact rx_expr h.2 (he z h.1)
omit y in
theorem rxs_assign (hk : env.scope.kind = .function) {t : XT} {e : XE} {x : Stmt} {m : AF → AM Unit} (h : (s_assign t e).mt T sc ns x = true) (he : ∀ z, e.mt T sc ns z = true → RaX B A T sc ns env l (eval z env) m) : RaX B A T sc ns env l (exec x env) m := by
  obtain ⟨ts, x, p, rfl, h⟩ := stAssign_i (f := _) h
  refine on1_e h fun tg h => ?_
  have h := and_i h
  have h6 := h.2
  have h := and_i h.1
  have h5 := h.2
  have h := and_i h.1
  have h := and_i h.1
  have h3 := h.2
  have h := and_i h.1
  exact rx_assign h3 (ordered h5 hk h6) (he x h.2)
end
theorem rthen_some {k : AF → AM Unit} {p : Flo × AF} {H H' : AH} (e : rthen k p H = some ((), H')) : ∃ F, p = (.next, F) ∧ k F H = some ((), H') := by
  obtain ⟨f, F⟩ := p
  cases f with
  | next => exact ⟨F, rfl, e⟩
  | ret v => cases e
theorem FrOK.bare {B : Base} {T : Tabs} {sc : Scope} {ns : List (List Nat)} {env : Env} {F F' : AF} {G : St} {h : Heap} (P : FrOK B T sc ns env F G h) (hl : F'.length = F.length) (k : ∀ (i : Nat) v, F'[i]? = some (some v) → F[i]? = some (some v) ∧ noRef 8 v = true)
    (nc : ∀ n ∈ ns, isKind sc (toS n) .cell = false ∧ isKind sc (toS n) .free = false) : FrOK B T sc ns env F' ⟨G.g, []⟩ h where
  tg := P.tg
  tm := P.tm
  kl := P.kl
  kc := P.kc
  kf := P.kf
  kg := P.kg
  kind := P.kind
  glb := P.glb
  blt := P.blt
  nod := P.nod
  len := hl.trans P.len
  lg := P.lg
  la := fun m => nomatch m
  lt := P.lt
  loc := by
    obtain ⟨m, hn, hm⟩ := P.loc
    refine ⟨m, hn, fun i n a b v c => ?_⟩
    obtain ⟨c1, c2⟩ := k i v c
    obtain ⟨u, x, r⟩ := hm i n a b v c1
    exact ⟨u, x, Rep.free (G := G) (G' := ⟨G.g, []⟩) (fun q_ q_ e => e) _ _ _ c2 r⟩
  cel := fun i n a b => by
    have := nc n (List.mem_of_getElem? a)
    rcases b with b | b
    · rw [this.1] at b; cases b
    · rw [this.2] at b; cases b
  own := P.own
  apart := P.apart
theorem FrOK.looked {B : Base} {T : Tabs} {sc : Scope} {ns : List (List Nat)} {env : Env} {F : AF} {G G' : St} {h h' : Heap} (P : FrOK B T sc ns env F G h) (st : Step B (fun b => b ∈ locs [env]) G h G' h') (off : G'.g env.locals = none ∧ env.locals ∉ G'.adr)
    (up : ∀ o, h.get? env.locals = some o → (∀ vs, o.data ≠ .fields vs) → ∃ sl, h'.get? env.locals = some { o with slots := sl }) (nc : ∀ n ∈ ns, isKind sc (toS n) .cell = false ∧ isKind sc (toS n) .free = false) : FrOK B T sc ns env F G' h' where
  tg := P.tg
  tm := P.tm
  kl := P.kl
  kc := P.kc
  kf := P.kf
  kg := P.kg
  kind := P.kind
  glb := P.glb
  blt := P.blt
  nod := P.nod
  len := P.len
  lg := off.1
  la := off.2
  lt := P.lt
  loc := by
    refine via fun R_ k_ => ?_
    obtain ⟨m, ⟨o, es, ep, e, d, r⟩, hm⟩ := P.loc
    refine k_ ?_
    obtain ⟨sl, q⟩ := up o e (fun vs z => by rw [d] at z; cases z)
    refine ⟨m, ⟨_, es, ep, q, d, r⟩, fun i n a b v c => ?_⟩
    obtain ⟨u, x, r⟩ := hm i n a b v c
    exact ⟨u, x, st.rep r⟩
  cel := fun i n a b => by
    have := nc n (List.mem_of_getElem? a)
    rcases b with b | b
    · rw [this.1] at b; cases b
    · rw [this.2] at b; cases b
  own := fun a ha => by
    by_cases q : a = env.locals
    · refine via fun R_ k_ => ?_
      obtain ⟨m, ⟨o, es, ep, e, d, r⟩, hm⟩ := P.loc
      refine k_ ?_
      obtain ⟨sl, z⟩ := up o e (fun vs z => by rw [d] at z; cases z)
      exact ⟨_, by rw [q]; exact z⟩
    · obtain ⟨o, e⟩ := P.own a ha
      exact st.live a o (fun m => by rcases List.mem_cons.mp m with m | m; exact q m; cases m) e
  apart := P.apart
end
section
set_option Elab.async false
set_option autoImplicit false
set_option linter.unusedVariables false
set_option maxRecDepth 100000
set_option backward.match.sparseCases false
set_option tactic.hygienic false
set_option genSizeOf false
set_option genInjectivity false
open PySem PySem.W PyProof.Rows PySem.Calls
noncomputable def mroE (a : Addr) : List Value → Bool := onC fun x => onC fun y => onC fun z => onC fun u l => isRef a x && isTy "Exception" y && isTy "BaseException" z && isTy "object" u && on0 l
noncomputable def excOf (a : Addr) (o : Obj) : Option Addr := match o.data with
  | .cls cd => if clsB0 (mroE a) "Exception.__new__" o cd then some cd.ns else none
  | _ => none
theorem excOf_i {a N : Addr} {o : Obj} (h : excOf a o = some N) : ∃ cr : CR, cr.N = N ∧ o = cr.obj a excBm cr.ab "Exception.__new__" := by
  unfold excOf at h
  cases hd : o.data with
  | cls cd =>
    rw [hd] at h
    refine via fun R_ k_ => ?_
    obtain ⟨q, e⟩ := ite_i h
    obtain ⟨cr, h1, _, h3⟩ := clsB0_i hd q
    refine k_ ?_
    refine ⟨cr, h1.trans e, h3 a _ fun m => ?_⟩
    obtain ⟨x, l, e2, g⟩ := onC_i (f := _) m
    obtain ⟨y, l1, rfl, g1⟩ := onC_i (f := _) g
    obtain ⟨z, l2, rfl, g2⟩ := onC_i (f := _) g1
    obtain ⟨u, l3, rfl, g3⟩ := onC_i (f := _) g2
    have g := and_i g3
    have e0 := on0_i g.2
    have g := and_i g.1
    have g4 := isTy_i g.2
    have g := and_i g.1
    have g3 := isTy_i g.2
    have g := and_i g.1
    rw [e2, e0, g4, g3, isTy_i g.2, refA_i (of_decide_eq_true g.1)]
  | _ => rw [hd] at h; cases h
noncomputable def failB (K : Frag) (fnA : Nat → Addr) (a : Addr) (k : Nat) : Bool := onS (fun N : Addr => nsB K N && (nsK K N "__getattribute__").isNone && (nsK K N "__getattr__").isNone && (nsK K N "__setattr__").isNone && allFlds.all (fun f => (nsK K N f.name).isNone) &&
  onS (isRef (fnA k)) (nsK K N "__init__") && isFn K (fnA k)) ((K.lookup a).bind (excOf a))
theorem failB_i {K : Frag} {B : Base} (X : K.In B.h₀) {k : Nat} (h : failB K B.fnA (B.clA .fail) k = true) : FailOk B k := by
  obtain ⟨N, hN, h⟩ := onS_i h
  obtain ⟨o, ho, hc⟩ := Option.bind_eq_some_iff.mp hN
  obtain ⟨cr, rfl, rfl⟩ := excOf_i hc
  have h := and_i h
  obtain ⟨of, e1, e2⟩ := isFn_i X h.2
  have h := and_i h.1
  have g6 := h.2
  have h := and_i h.1
  have g5 := List.all_eq_true.mp h.2
  have h := and_i h.1
  have g4 := Option.isNone_iff_eq_none.mp h.2
  have h := and_i h.1
  have g3 := Option.isNone_iff_eq_none.mp h.2
  have h := and_i h.1
  have g2 := Option.isNone_iff_eq_none.mp h.2
  exact .mk cr (nsK K cr.N) (X _ _ ho) (nsB_i X h.1) (refS_i g6) g2 g3 g4 (fun f => Option.isNone_iff_eq_none.mp (g5 f (mem_flds f))) ⟨of, e1, e2⟩
noncomputable def locB (K : Frag) (names : List (List Nat)) (a : Addr) : Bool := onS (fun fd : FuncData => names.all fun n => isKind fd.scope (toS n) .local) (fdAt K a)
theorem iniB_i {K : Frag} {B : Base} (X : K.In B.h₀) {k : Nat} (h : fnB K B.T iniFn (B.fnA k) = true) (hl : locB K iniNames (B.fnA k) = true) : IniOk B k := by
  refine via fun R_ k_ => ?_
  obtain ⟨fd, e, h⟩ := onS_i h
  have h := and_i h
  obtain ⟨C, b, hb, hm⟩ := coreB_i X e h.1
  have g := and_i h.2
  have g1 := and_i g.1
  obtain ⟨fd', e', hl⟩ := onS_i hl
  refine k_ ?_
  rw [e] at e'; cases e'
  refine .mk fd B.T b C hb hm (fun n hn => List.all_eq_true.mp hl n hn) fun s vs hv => BindsTo.of_eq (bind_plain g1.1 (isNoneV_i g1.2) (isNoneV_i g.2) ?_ ?_)
  · rw [hv]; rfl
  · exact (scopeOk_iff C.sc).nod
theorem fnL_i {K : Frag} {B : Base} (X : K.In B.h₀) {k : Nat} {f : IFn} (h : fnB K B.T f (B.fnA k) = true) (hl : locB K f.names (B.fnA k) = true) : ∃ fd b, FnCore B (B.fnA k) fd B.T f.names f.np ∧ fd.body = .stmts b ∧ mSs B.T fd.scope f.names f.body b = true ∧
    (∀ (s : Shared) (vs : List Value), vs.length = f.np → BindsTo s fd ⟨vs, []⟩ (((f.names.take f.np).map toS).zip vs)) ∧ ∀ n ∈ f.names, isKind fd.scope (toS n) .cell = false ∧ isKind fd.scope (toS n) .free = false := by
  refine via fun R_ k_ => ?_
  obtain ⟨fd, e, h⟩ := onS_i h
  have h := and_i h
  obtain ⟨C, b, hb, hm⟩ := coreB_i X e h.1
  have g := and_i h.2
  have g1 := and_i g.1
  obtain ⟨fd', e', hl⟩ := onS_i hl
  refine k_ ?_
  rw [e] at e'; cases e'
  refine ⟨fd, b, C, hb, hm, fun s vs hl => BindsTo.of_eq (bind_plain g1.1 (isNoneV_i g1.2) (isNoneV_i g.2) ?_ ?_), fun n hn => ?_⟩
  · rw [hl, List.length_take]; have := C.hnp; omega
  · exact (scopeOk_iff C.sc).nod.sublist (List.take_sublist _ _)
  · have q := isKind_iff.mp (List.all_eq_true.mp hl n hn)
    constructor
    · cases r : isKind fd.scope (toS n) .cell with
      | false => rfl
      | true => have := isKind_iff.mp r; rw [q] at this; cases this
    · cases r : isKind fd.scope (toS n) .free with
      | false => rfl
      | true => have := isKind_iff.mp r; rw [q] at this; cases this
end
section
set_option Elab.async false
set_option autoImplicit false
set_option linter.unusedVariables false
set_option maxRecDepth 100000
set_option backward.match.sparseCases false
set_option tactic.hygienic false
set_option genSizeOf false
set_option genInjectivity false
open PySem PySem.W PyProof.Rows PySem.Calls
section
variable (G : Glo) (call : Orc) (W : Nat)
noncomputable def rLoop (s1 s2 : XS) (c : XE) (a1 : XS) (c2 : XE) (a : List XS) (F : AF) : AM Unit := abind (s1.ex G call W F) (rthen fun F => abind (s2.ex G call W F) (rthen fun F =>
  rwhile (fun F => tst (c.ev G call F)) (exs G call W a) (fun F => abind (a1.ex G call W F) (rthen fun F => abind (tst (c2.ev G call F)) fun t => cond t (apure ()) afail)) W F))
noncomputable def rOwn (rc : Nat → List AV → AM Unit) (s1 s2 : XS) (o : XE) (k : Nat) (es : List XE) (F : AF) : AM Unit := abind (s1.ex G call W F) (rthen fun F => abind (s2.ex G call W F) (rthen fun F =>
  abind (o.ev G call F) fun v => abind (aclsOf v) fun c => abind (aopt (G.mth c k)) fun j => abind (evs G call F es) fun xs => rc j (v :: xs)))
noncomputable def rCall (rc : Nat → List AV → AM Unit) (g : XE) (es : List XE) (F : AF) : AM Unit := abind (g.ev G call F) fun v => abind (evs G call F es) fun xs => abind (aopt (fnOf v)) fun k => rc k xs
end
section
variable {B : Base} {A : Around} {call' : Orc} (y : Hyp B A call') {T : Tabs} {sc : Scope} {ns : List (List Nat)} {env : Env} {l : List Env} {W : Nat} (hk : env.scope.kind = .function) (hfr : A.frames = some (env :: l)) (hf : env.frame = some env.locals)
include y hk hfr hf
theorem rx_loop {ki : Nat} (FO : FailOk B ki) (IO : IniOk B ki) (hroom : A.depth + 1 < recursionLimit) {s1 s2 x4 a1 : XS} {c c2 g : XE} {es : List XE} {rest : List XS} {body : List Stmt} {k2 : List Nat}
    (h : mSs T sc ns [s1, s2, s_while c (a1 :: s_if c2 [s_raise (n_call g es)] [] :: rest), x4] body = true) (e1 : ∀ F H, g.ev B.Gl call' F H = some (.cls .fail, H)) (e2 : ∀ F H, evs B.Gl call' F es H = some ([.str rangeE, .str k2], H)) :
    RaX B A T sc ns env l (execs body env) (rLoop B.Gl call' W s1 s2 c a1 c2 (a1 :: s_if c2 [s_raise (n_call g es)] [] :: rest)) :=
  rxs_cons y hk h fun q_ h1 => rxs_cons y hk h1 fun q_ h2 => rxs_head y h2 fun q_ h3 => rxs_while y hk hfr hf h3 fun q_ h4 => rxs_cons y hk h4 fun q_ h5 => rxs_head y h5 fun q_ h6 => rxs_if y h6 fun q_ h7 => rxs_head y h7 fun q_ h8 => rx_raise y FO IO hroom hf h8 e1 e2
theorem rx_ownA {rc : Nat → List AV → AM Unit} (R : RCall B A (env :: l) rc) {s1 s2 : XS} {t : XT} {o : XE} {k : Nat} {es : List XE} {r : List XS} {body : List Stmt} (h : mSs T sc ns (s1 :: s2 :: s_assign t (n_own o k es) :: r) body = true) :
    RaX B A T sc ns env l (execs body env) (rOwn B.Gl call' W rc s1 s2 o k es) :=
  rxs_cons y hk h fun q_ h1 => rxs_cons y hk h1 fun q_ h2 => rxs_head y h2 fun q_ h3 => rxs_assign hk h3 fun q_ h4 => rx_own y R hf h4
theorem rx_callR {rc : Nat → List AV → AM Unit} (R : RCall B A (env :: l) rc) {g : XE} {es : List XE} {r : List XS} {body : List Stmt} (h : mSs T sc ns (s_ret (n_call g es) :: r) body = true) :
    RaX B A T sc ns env l (execs body env) (rCall B.Gl call' rc g es) := rxs_head y h fun q_ h1 => rxs_ret h1 fun q_ h2 => rx_call y R hf h2
theorem rx_callE {rc : Nat → List AV → AM Unit} (R : RCall B A (env :: l) rc) {g : XE} {es : List XE} {r : List XS} {body : List Stmt} (h : mSs T sc ns (s_expr (n_call g es) :: r) body = true) :
    RaX B A T sc ns env l (execs body env) (rCall B.Gl call' rc g es) := rxs_head y h fun q_ h1 => rxs_expr h1 fun q_ h2 => rx_call y R hf h2
end
theorem bare_back {B : Base} {X : Addr → Prop} {G G' : St} {h h' : Heap} {H H' : AH} (I : Inv B G H h) (st : Step B X ⟨G.g, []⟩ h G' h') (I' : Inv B G' H' h') (off : ∀ a ∈ G.adr, ¬ X a) : Step B X G h ⟨G'.g, G.al⟩ h' ∧ Inv B ⟨G'.g, G.al⟩ H h' := by
  refine ⟨⟨st.live, st.mono, st.ext, ⟨[], (List.append_nil _).symm, fun q_ hm => nomatch hm⟩, fun b o x q_ ht e => st.keep b o x (fun m => nomatch m) ht e⟩, ⟨I'.sub, I'.old, I.len, I.nod, fun a ha => ?_, fun i o p a b => ?_⟩⟩
  · obtain ⟨x, y, o, q⟩ := I.off a ha
    exact ⟨(st.ext a o q (off a ha)).trans x, y, st.live a o (off a ha) q⟩
  · exact AObjOk.mono (G := G) (G' := ⟨G'.g, G.al⟩) st.mono (fun q_ q_ e => e) (fun o q => st.keep _ o (off _ (mem_adr1 b)) (fun m => nomatch m) (fun m => nomatch m) q) (fun d o z q => st.keep _ o (off _ (mem_adr2 b z)) (fun m => nomatch m) (fun m => nomatch m) q) (I.objs i o p a b)
end
section
set_option Elab.async false
set_option autoImplicit false
set_option maxRecDepth 10000
set_option backward.match.sparseCases false
set_option tactic.hygienic false
set_option genSizeOf false
set_option genInjectivity false
open PySem
noncomputable def f_is_line_end : IFn := IFn.mk [[99, 111, 100, 101]] 1 [(s_ret (n_cmp OpC.isIn (n_var 0) (n_gl 0)))]
noncomputable def f_small_code : IFn := IFn.mk [[99, 111, 100, 101], [102, 105, 114, 115, 116], [108, 97, 115, 116], [119, 97, 121]] 1 [(s_if (n_cmp OpC.isIn (n_var 0) (n_gl 4)) [(s_ret (n_sub (n_gl 4) (n_var 0)))] []),
    (s_for (t_tup [(t_var 1 false), (t_var 2 false), (t_var 3 false)]) (i_of (n_gl 2)) [(s_if (n_cmp2 OpC.le OpC.le (n_var 1) (n_var 0) (n_var 2)) [(s_ret (n_bin Op2.add (n_var 0) (n_var 3)))] [])]),
    (s_for (t_tup [(t_var 1 false), (t_var 2 false)]) (i_of (n_gl 3)) [(s_if (n_and [(n_cmp2 OpC.le OpC.le (n_var 1) (n_var 0) (n_var 2)), (n_cmp OpC.eq (n_bin Op2.mod (n_bin Op2.sub (n_var 0) (n_var 1)) (n_int 2)) (n_int 0))]) [(s_ret (n_bin Op2.add (n_var 0) (n_int 1)))] [])]),
    (s_ret (n_var 0))]
noncomputable def f_great_code : IFn := IFn.mk [[99, 111, 100, 101], [102, 105, 114, 115, 116], [108, 97, 115, 116], [119, 97, 121]] 1 [(s_if (n_cmp OpC.isIn (n_var 0) (n_gl 5)) [(s_ret (n_sub (n_gl 5) (n_var 0)))] []),
    (s_for (t_tup [(t_var 1 false), (t_var 2 false), (t_var 3 false)]) (i_of (n_gl 2)) [(s_if (n_cmp2 OpC.le OpC.le (n_var 1) (n_bin Op2.sub (n_var 0) (n_var 3)) (n_var 2)) [(s_ret (n_bin Op2.sub (n_var 0) (n_var 3)))] [])]),
    (s_for (t_tup [(t_var 1 false), (t_var 2 false)]) (i_of (n_gl 3)) [(s_if (n_and [(n_cmp2 OpC.le OpC.le (n_var 1) (n_var 0) (n_var 2)), (n_cmp OpC.eq (n_bin Op2.mod (n_bin Op2.sub (n_var 0) (n_var 1)) (n_int 2)) (n_int 1))]) [(s_ret (n_bin Op2.sub (n_var 0) (n_int 1)))] [])]),
    (s_ret (n_var 0))]
noncomputable def f_has : IFn := IFn.mk [[114, 97, 110, 103, 101, 115], [99, 111, 100, 101], [108, 111, 119], [104, 105, 103, 104], [109, 105, 100, 100, 108, 101]] 2 [(s_assign (t_var 2 false) (n_int 0)),
    (s_assign (t_var 3 false) (n_call (n_gl 39) [(n_var 0)])),
    (s_while (n_cmp OpC.lt (n_var 2) (n_var 3)) [(s_assign (t_var 4 false) (n_bin Op2.fdiv (n_bin Op2.add (n_var 2) (n_var 3)) (n_int 2))),
    (s_if (n_cmp OpC.lt (n_sub (n_sub (n_var 0) (n_var 4)) (n_int 1)) (n_var 1)) [(s_assign (t_var 2 false) (n_bin Op2.add (n_var 4) (n_int 1)))] [(s_assign (t_var 3 false) (n_var 4))])]),
    (s_ret (n_and [(n_cmp OpC.lt (n_var 2) (n_call (n_gl 39) [(n_var 0)])), (n_cmp OpC.le (n_sub (n_sub (n_var 0) (n_var 2)) (n_int 0)) (n_var 1))]))]
noncomputable def f_is_word : IFn := IFn.mk [[99, 111, 100, 101]] 1 [(s_ret (n_call (n_gl 10) [(n_gl 9), (n_var 0)]))]
noncomputable def f_canon : IFn := IFn.mk [[99, 111, 100, 101], [103, 114, 101, 97, 116]] 1 [(s_if (n_cmp OpC.isIn (n_var 0) (n_gl 6)) [(s_ret (n_var 0))] []),
    (s_assign (t_var 1 false) (n_call (n_gl 8) [(n_var 0)])),
    (s_ret (n_ite (n_and [(n_cmp OpC.gt (n_var 0) (n_int 127)), (n_cmp OpC.lt (n_var 1) (n_int 128))]) (n_var 0) (n_var 1)))]
noncomputable def f_has_folded : IFn := IFn.mk [[114, 97, 110, 103, 101, 115], [99, 111, 100, 101], [103, 114, 101, 97, 116], [115, 111, 109, 101]] 2 [(s_assign (t_var 2 true) (n_call (n_gl 12) [(n_var 1)])),
    (s_assign (t_var 3 false) (n_bin Op2.add (n_lst false [(n_var 1), (n_var 2), (n_call (n_gl 7) [(n_var 2)])]) (n_comp [[111, 110, 101], [103, 114, 101, 97, 116]] (n_var 0) (t_var 0 false) (i_of (n_gl 5)) [(n_cmp OpC.eq (n_sub (n_gl 5) (n_var 0)) (n_var 1))] [(2, 1)]))),
    (s_ret (n_call (n_gl 44) [(n_comp [[111, 110, 101], [103, 114, 101, 97, 116], [114, 97, 110, 103, 101, 115]] (n_and [(n_cmp OpC.eq (n_call (n_gl 12) [(n_var 0)]) (n_var 1)), (n_call (n_gl 10) [(n_var 2), (n_var 0)])]) (t_var 0 false) (i_of (n_var 3)) [] [(2, 1), (0, 2)])]))]
noncomputable def f_JSFail_init : IFn := IFn.mk [[115, 101, 108, 102], [107, 105, 110, 100], [116, 101, 120, 116]] 3 [(s_assign (t_attr (n_var 0) Fld.kind) (n_var 1)),
    (s_assign (t_attr (n_var 0) Fld.text) (n_var 2))]
noncomputable def f_Limits_init : IFn := IFn.mk [[115, 101, 108, 102], [100, 101, 112, 116, 104], [102, 114, 97, 109, 101, 115], [115, 116, 101, 112, 115], [116, 101, 120, 116]] 5 [(s_assign (t_attr (n_var 0) Fld.depth) (n_var 1)),
    (s_assign (t_attr (n_var 0) Fld.frames) (n_var 2)),
    (s_assign (t_attr (n_var 0) Fld.steps) (n_var 3)),
    (s_assign (t_attr (n_var 0) Fld.text) (n_var 4))]
noncomputable def f_PatternCode_init : IFn := IFn.mk [[115, 101, 108, 102]] 1 [(s_assign (t_attr (n_var 0) Fld.steps) (n_lst true [])),
    (s_assign (t_attr (n_var 0) Fld.loops) (n_int 0))]
noncomputable def f_PatternCode_emit : IFn := IFn.mk [[115, 101, 108, 102], [115, 116, 101, 112]] 2 [(s_expr (n_meth (n_attr (n_var 0) Fld.steps) Me.append [(n_var 1)])),
    (s_ret (n_bin Op2.sub (n_call (n_gl 39) [(n_attr (n_var 0) Fld.steps)]) (n_int 1)))]
noncomputable def f_PatternCode_put : IFn := IFn.mk [[115, 101, 108, 102], [116, 114, 101, 101], [107, 105, 110, 100], [116, 101, 114, 109], [97, 116]] 2 [(s_assign (t_var 2 false) (n_sub (n_var 1) (n_int 0))),
    (s_if (n_cmp OpC.eq (n_var 2) (n_str [97, 108, 116])) [(s_expr (n_own (n_var 0) 3 [(n_sub (n_var 1) (n_int 1))]))] [(s_if (n_cmp OpC.eq (n_var 2) (n_str [115, 101, 113])) [(s_for (t_var 3 false) (i_of (n_sub (n_var 1) (n_int 1))) [(s_expr (n_own (n_var 0) 1 [(n_var 3)]))])] [(s_if (n_cmp OpC.eq (n_var 2) (n_str [103, 114, 111, 117, 112])) [(s_expr (n_own (n_var 0) 4 [(n_sub (n_var 1) (n_int 1)), (n_sub (n_var 1) (n_int 2))]))] [(s_if (n_cmp OpC.eq (n_var 2) (n_str [108, 111, 111, 107])) [(s_assign (t_var 4 false) (n_own (n_var 0) 0 [n_none])),
    (s_expr (n_own (n_var 0) 1 [(n_sub (n_var 1) (n_int 2))])),
    (s_expr (n_own (n_var 0) 0 [(n_tup [(n_gl 31)])])),
    (s_assign (t_sub (n_attr (n_var 0) Fld.steps) (n_var 4)) (n_tup [(n_gl 25), (n_sub (n_var 1) (n_int 1)), (n_call (n_gl 39) [(n_attr (n_var 0) Fld.steps)])]))] [(s_if (n_cmp OpC.eq (n_var 2) (n_str [114, 101, 112, 101, 97, 116])) [(s_expr (n_own (n_var 0) 5 [(n_var 1)]))] [(s_expr (n_own (n_var 0) 0 [(n_own (n_var 0) 2 [(n_var 1)])]))])])])])])]
noncomputable def f_PatternCode_plain : IFn := IFn.mk [[115, 101, 108, 102], [116, 114, 101, 101], [107, 105, 110, 100]] 2 [(s_assign (t_var 2 false) (n_sub (n_var 1) (n_int 0))),
    (s_if (n_cmp OpC.eq (n_var 2) (n_str [99, 104, 97, 114])) [(s_ret (n_tup [(n_gl 16), (n_sub (n_var 1) (n_int 1))]))] []),
    (s_if (n_cmp OpC.eq (n_var 2) (n_str [99, 108, 97, 115, 115])) [(s_ret (n_tup [(n_gl 18), (n_sub (n_var 1) (n_int 1)), (n_sub (n_var 1) (n_int 2))]))] []),
    (s_if (n_cmp OpC.eq (n_var 2) (n_str [98, 111, 117, 110, 100, 97, 114, 121])) [(s_ret (n_tup [(n_gl 21), (n_sub (n_var 1) (n_int 1))]))] []),
    (s_if (n_cmp OpC.eq (n_var 2) (n_str [98, 97, 99, 107])) [(s_ret (n_tup [(n_gl 24), (n_sub (n_var 1) (n_int 1))]))] []),
    (s_ret (n_tup [(n_pick [[97, 110, 121], [115, 116, 97, 114, 116], [101, 110, 100]] [(n_gl 17), (n_gl 19), (n_gl 20)] (n_var 2))]))]
noncomputable def f_PatternCode_put_choice : IFn := IFn.mk [[115, 101, 108, 102], [116, 114, 101, 101, 115], [101, 110, 100, 115], [116, 114, 101, 101], [97, 116]] 2 [(s_assign (t_var 2 false) (n_lst true [])),
    (s_for (t_var 3 false) (i_of (n_slc (n_var 1) none (some (n_neg (n_int 1))))) [(s_assign (t_var 4 false) (n_own (n_var 0) 0 [n_none])),
    (s_expr (n_own (n_var 0) 1 [(n_var 3)])),
    (s_expr (n_meth (n_var 2) Me.append [(n_own (n_var 0) 0 [n_none])])),
    (s_assign (t_sub (n_attr (n_var 0) Fld.steps) (n_var 4)) (n_tup [(n_gl 26), (n_bin Op2.add (n_var 4) (n_int 1)), (n_call (n_gl 39) [(n_attr (n_var 0) Fld.steps)])]))]),
    (s_expr (n_own (n_var 0) 1 [(n_sub (n_var 1) (n_neg (n_int 1)))])),
    (s_forL (t_var 4 false) (n_var 2) [(s_assign (t_sub (n_attr (n_var 0) Fld.steps) (n_var 4)) (n_tup [(n_gl 27), (n_call (n_gl 39) [(n_attr (n_var 0) Fld.steps)])]))])]
noncomputable def f_PatternCode_put_group : IFn := IFn.mk [[115, 101, 108, 102], [110, 117, 109, 98, 101, 114], [116, 114, 101, 101]] 3 [(s_if (n_cmp OpC.is (n_var 1) n_none) [(s_expr (n_own (n_var 0) 1 [(n_var 2)])),
    s_retN] []),
    (s_expr (n_own (n_var 0) 0 [(n_tup [(n_gl 22), (n_var 1)])])),
    (s_expr (n_own (n_var 0) 1 [(n_var 2)])),
    (s_expr (n_own (n_var 0) 0 [(n_tup [(n_gl 23), (n_var 1)])]))]
noncomputable def f_PatternCode_put_repeat : IFn := IFn.mk [[115, 101, 108, 102], [116, 114, 101, 101], [108, 101, 97, 115, 116], [109, 111, 115, 116], [105, 115, 95, 108, 97, 122, 121], [116, 101, 114, 109], [102, 105, 114, 115, 116], [98, 101, 104, 105, 110, 100], [108, 111, 111, 112], [104, 101, 97, 100]] 2 [(s_assign (t_tup [(t_var 2 false), (t_var 3 false), (t_var 4 false), (t_var 5 false), (t_var 6 false), (t_var 7 false)]) (n_slc (n_var 1) (some (n_int 1)) none)),
    (s_assign (t_var 8 false) (n_attr (n_var 0) Fld.loops)),
    (s_augA (n_var 0) Fld.loops Op2.add (n_int 1)),
    (s_expr (n_own (n_var 0) 0 [(n_tup [(n_gl 28), (n_var 8)])])),
    (s_assign (t_var 9 false) (n_own (n_var 0) 0 [n_none])),
    (s_expr (n_own (n_var 0) 1 [(n_var 5)])),
    (s_expr (n_own (n_var 0) 0 [(n_tup [(n_gl 30), (n_var 8), (n_var 2), (n_var 9)])])),
    (s_assign (t_sub (n_attr (n_var 0) Fld.steps) (n_var 9)) (n_tup [(n_gl 29), (n_var 8), (n_var 2), (n_var 3), (n_var 4), (n_var 6), (n_var 7), (n_call (n_gl 39) [(n_attr (n_var 0) Fld.steps)])]))]
noncomputable def f_pattern_code : IFn := IFn.mk [[116, 114, 101, 101], [99, 111, 100, 101]] 1 [(s_assign (t_var 1 false) (n_call (n_gl 32) [])),
    (s_expr (n_own (n_var 1) 1 [(n_var 0)])),
    (s_expr (n_own (n_var 1) 0 [(n_tup [(n_gl 31)])])),
    (s_ret (n_tup [(n_attr (n_var 1) Fld.steps), (n_attr (n_var 1) Fld.loops)]))]
noncomputable def f_changed : IFn := IFn.mk [[114, 111, 119], [97, 116], [118, 97, 108, 117, 101]] 3 [(s_ret (n_bin Op2.add (n_bin Op2.add (n_slc (n_var 0) none (some (n_var 1))) (n_tup [(n_var 2)])) (n_slc (n_var 0) (some (n_bin Op2.add (n_var 1) (n_int 1))) none)))]
noncomputable def f_Search_init : IFn := IFn.mk [[115, 101, 108, 102], [115, 116, 101, 112, 115], [116, 101, 120, 116], [105, 103, 110, 111, 114, 101, 115, 95, 99, 97, 115, 101], [105, 115, 95, 109, 117, 108, 116, 105, 108, 105, 110, 101], [108, 105, 109, 105, 116, 115]] 6 [(s_assign (t_attr (n_var 0) Fld.steps) (n_var 1)),
    (s_assign (t_attr (n_var 0) Fld.text) (n_var 2)),
    (s_assign (t_attr (n_var 0) Fld.ic) (n_var 3)),
    (s_assign (t_attr (n_var 0) Fld.ml) (n_var 4)),
    (s_assign (t_attr (n_var 0) Fld.left) (n_attr (n_var 5) Fld.steps)),
    (s_assign (t_attr (n_var 0) Fld.waiting) (n_lst true []))]
noncomputable def f_Search_run : IFn := IFn.mk [[115, 101, 108, 102], [112, 99], [97, 116], [103, 114, 111, 117, 112, 115], [108, 111, 111, 112, 115], [98, 111, 116, 116, 111, 109], [115, 116, 97, 116, 101], [115, 116, 101, 112]] 5 [(s_assign (t_var 5 false) (n_call (n_gl 39) [(n_attr (n_var 0) Fld.waiting)])),
    (s_assign (t_var 6 false) (n_tup [(n_var 1), (n_var 2), (n_var 3), (n_var 4)])),
    (s_while (n_cmp OpC.isNot (n_var 6) n_none) [(s_augA (n_var 0) Fld.left Op2.sub (n_int 1)),
    (s_if (n_cmp OpC.lt (n_attr (n_var 0) Fld.left) (n_int 0)) [(s_raise (n_call (n_gl 14) [(n_str [82, 97, 110, 103, 101, 69, 114, 114, 111, 114]), (n_str [97, 32, 112, 97, 116, 116, 101, 114, 110, 32, 116, 97, 107, 101, 115, 32, 116, 111, 111, 32, 109, 97, 110, 121, 32, 115, 116, 101, 112, 115])]))] []),
    (s_assign (t_var 7 false) (n_sub (n_attr (n_var 0) Fld.steps) (n_sub (n_var 6) (n_int 0)))),
    (s_if (n_cmp OpC.eq (n_sub (n_var 7) (n_int 0)) (n_gl 31)) [(s_assign (t_attr (n_var 0) Fld.waiting) (n_slm (n_attr (n_var 0) Fld.waiting) none (some (n_var 5)))),
    (s_ret (n_tup [(n_sub (n_var 6) (n_int 1)), (n_sub (n_var 6) (n_int 2))]))] []),
    (s_assign (t_var 6 false) (n_own (n_var 0) 7 [(n_var 7), (n_var 6)])),
    (s_if (n_and [(n_cmp OpC.is (n_var 6) n_none), (n_cmp OpC.gt (n_call (n_gl 39) [(n_attr (n_var 0) Fld.waiting)]) (n_var 5))]) [(s_assign (t_var 6 false) (n_meth (n_attr (n_var 0) Fld.waiting) Me.pop []))] [])]),
    (s_ret n_none)]
noncomputable def f_Search_advance : IFn := IFn.mk [[115, 101, 108, 102], [115, 116, 101, 112], [115, 116, 97, 116, 101], [119, 104, 97, 116], [112, 99], [97, 116], [103, 114, 111, 117, 112, 115], [108, 111, 111, 112, 115], [105, 115, 95, 109, 101, 116], [101, 110, 100]] 3 [(s_assign (t_tup [(t_var 3 false), (t_tup [(t_var 4 false), (t_var 5 false), (t_var 6 false), (t_var 7 false)])]) (n_tup [(n_sub (n_var 1) (n_int 0)), (n_var 2)])),
    (s_if (n_cmp OpC.le (n_var 3) (n_gl 18)) [(s_assign (t_var 8 false) (n_and [(n_cmp OpC.lt (n_var 5) (n_call (n_gl 39) [(n_attr (n_var 0) Fld.text)])), (n_own (n_var 0) 8 [(n_var 1), (n_call (n_gl 42) [(n_sub (n_attr (n_var 0) Fld.text) (n_var 5))])])])),
    (s_ret (n_ite (n_var 8) (n_tup [(n_bin Op2.add (n_var 4) (n_int 1)), (n_bin Op2.add (n_var 5) (n_int 1)), (n_var 6), (n_var 7)]) n_none))] []),
    (s_if (n_cmp OpC.le (n_var 3) (n_gl 21)) [(s_ret (n_ite (n_own (n_var 0) 9 [(n_var 1), (n_var 5)]) (n_tup [(n_bin Op2.add (n_var 4) (n_int 1)), (n_var 5), (n_var 6), (n_var 7)]) n_none))] []),
    (s_if (n_cmp OpC.eq (n_var 3) (n_gl 22)) [(s_ret (n_tup [(n_bin Op2.add (n_var 4) (n_int 1)), (n_var 5), (n_var 6), (n_call (n_gl 34) [(n_var 7), (n_bin Op2.sub (n_call (n_gl 39) [(n_var 7)]) (n_sub (n_var 1) (n_int 1))), (n_var 5)])]))] []),
    (s_if (n_cmp OpC.eq (n_var 3) (n_gl 23)) [(s_ret (n_tup [(n_bin Op2.add (n_var 4) (n_int 1)), (n_var 5), (n_call (n_gl 34) [(n_var 6), (n_bin Op2.sub (n_sub (n_var 1) (n_int 1)) (n_int 1)), (n_tup [(n_sub (n_var 7) (n_bin Op2.sub (n_call (n_gl 39) [(n_var 7)]) (n_sub (n_var 1) (n_int 1)))), (n_var 5)])]), (n_var 7)]))] []),
    (s_if (n_cmp OpC.eq (n_var 3) (n_gl 24)) [(s_assign (t_var 9 false) (n_own (n_var 0) 10 [(n_sub (n_var 6) (n_bin Op2.sub (n_sub (n_var 1) (n_int 1)) (n_int 1))), (n_var 5)])),
    (s_ret (n_ite (n_cmp OpC.is (n_var 9) n_none) n_none (n_tup [(n_bin Op2.add (n_var 4) (n_int 1)), (n_var 9), (n_var 6), (n_var 7)])))] []),
    (s_if (n_cmp OpC.eq (n_var 3) (n_gl 25)) [(s_ret (n_own (n_var 0) 11 [(n_var 1), (n_var 2)]))] []),
    (s_if (n_cmp OpC.eq (n_var 3) (n_gl 26)) [(s_expr (n_meth (n_attr (n_var 0) Fld.waiting) Me.append [(n_tup [(n_sub (n_var 1) (n_int 2)), (n_var 5), (n_var 6), (n_var 7)])])),
    (s_ret (n_tup [(n_sub (n_var 1) (n_int 1)), (n_var 5), (n_var 6), (n_var 7)]))] []),
    (s_if (n_cmp OpC.eq (n_var 3) (n_gl 27)) [(s_ret (n_tup [(n_sub (n_var 1) (n_int 1)), (n_var 5), (n_var 6), (n_var 7)]))] []),
    (s_ret (n_own (n_var 0) 12 [(n_var 1), (n_var 2)]))]
noncomputable def f_Search_takes : IFn := IFn.mk [[115, 101, 108, 102], [115, 116, 101, 112], [99, 111, 100, 101], [105, 115, 95, 105, 110]] 3 [(s_if (n_cmp OpC.eq (n_sub (n_var 1) (n_int 0)) (n_gl 17)) [(s_ret (n_not (n_call (n_gl 1) [(n_var 2)])))] []),
    (s_if (n_cmp OpC.eq (n_sub (n_var 1) (n_int 0)) (n_gl 16)) [(s_ret (n_or [(n_cmp OpC.eq (n_sub (n_var 1) (n_int 1)) (n_var 2)), (n_and [(n_attr (n_var 0) Fld.ic), (n_cmp OpC.eq (n_call (n_gl 12) [(n_sub (n_var 1) (n_int 1))]) (n_call (n_gl 12) [(n_var 2)]))])]))] []),
    (s_assign (t_var 3 false) (n_ite (n_attr (n_var 0) Fld.ic) (n_call (n_gl 13) [(n_sub (n_var 1) (n_int 1)), (n_var 2)]) (n_call (n_gl 10) [(n_sub (n_var 1) (n_int 1)), (n_var 2)]))),
    (s_ret (n_cmp OpC.ne (n_var 3) (n_sub (n_var 1) (n_int 2))))]
noncomputable def f_Search_stands : IFn := IFn.mk [[115, 101, 108, 102], [115, 116, 101, 112], [97, 116], [116, 101, 120, 116], [105, 115, 95, 98, 101, 104, 105, 110, 100], [105, 115, 95, 97, 104, 101, 97, 100]] 3 [(s_assign (t_var 3 false) (n_attr (n_var 0) Fld.text)),
    (s_if (n_cmp OpC.eq (n_sub (n_var 1) (n_int 0)) (n_gl 19)) [(s_ret (n_or [(n_cmp OpC.eq (n_var 2) (n_int 0)), (n_and [(n_attr (n_var 0) Fld.ml), (n_call (n_gl 1) [(n_call (n_gl 42) [(n_sub (n_var 3) (n_bin Op2.sub (n_var 2) (n_int 1)))])])])]))] []),
    (s_if (n_cmp OpC.eq (n_sub (n_var 1) (n_int 0)) (n_gl 20)) [(s_ret (n_or [(n_cmp OpC.eq (n_var 2) (n_call (n_gl 39) [(n_var 3)])), (n_and [(n_attr (n_var 0) Fld.ml), (n_call (n_gl 1) [(n_call (n_gl 42) [(n_sub (n_var 3) (n_var 2))])])])]))] []),
    (s_assign (t_var 4 false) (n_and [(n_cmp OpC.gt (n_var 2) (n_int 0)), (n_call (n_gl 11) [(n_call (n_gl 42) [(n_sub (n_var 3) (n_bin Op2.sub (n_var 2) (n_int 1)))])])])),
    (s_assign (t_var 5 false) (n_and [(n_cmp OpC.lt (n_var 2) (n_call (n_gl 39) [(n_var 3)])), (n_call (n_gl 11) [(n_call (n_gl 42) [(n_sub (n_var 3) (n_var 2))])])])),
    (s_ret (n_cmp OpC.ne (n_cmp OpC.ne (n_var 4) (n_var 5)) (n_sub (n_var 1) (n_int 1))))]
noncomputable def f_Search_again : IFn := IFn.mk [[115, 101, 108, 102], [103, 114, 111, 117, 112], [97, 116], [101, 110, 100], [111, 110, 101], [111, 116, 104, 101, 114]] 3 [(s_if (n_cmp OpC.is (n_var 1) n_none) [(s_ret (n_var 2))] []),
    (s_assign (t_var 3 false) (n_bin Op2.sub (n_bin Op2.add (n_var 2) (n_sub (n_var 1) (n_int 1))) (n_sub (n_var 1) (n_int 0)))),
    (s_if (n_cmp OpC.gt (n_var 3) (n_call (n_gl 39) [(n_attr (n_var 0) Fld.text)])) [(s_ret n_none)] []),
    (s_for (t_tup [(t_var 4 false), (t_var 5 false)]) (i_zip (n_slc (n_attr (n_var 0) Fld.text) (some (n_sub (n_var 1) (n_int 0))) (some (n_sub (n_var 1) (n_int 1)))) (n_slc (n_attr (n_var 0) Fld.text) (some (n_var 2)) (some (n_var 3)))) [(s_if (n_and [(n_cmp OpC.ne (n_var 4) (n_var 5)), (n_not (n_and [(n_attr (n_var 0) Fld.ic), (n_cmp OpC.eq (n_call (n_gl 12) [(n_call (n_gl 42) [(n_var 4)])]) (n_call (n_gl 12) [(n_call (n_gl 42) [(n_var 5)])]))]))]) [(s_ret n_none)] [])]),
    (s_ret (n_var 3))]
noncomputable def f_Search_look : IFn := IFn.mk [[115, 101, 108, 102], [115, 116, 101, 112], [115, 116, 97, 116, 101], [112, 99], [97, 116], [103, 114, 111, 117, 112, 115], [108, 111, 111, 112, 115], [102, 111, 117, 110, 100]] 3 [(s_assign (t_tup [(t_var 3 false), (t_var 4 false), (t_var 5 false), (t_var 6 false)]) (n_var 2)),
    (s_assign (t_var 7 false) (n_own (n_var 0) 6 [(n_bin Op2.add (n_var 3) (n_int 1)), (n_var 4), (n_var 5), (n_var 6)])),
    (s_if (n_sub (n_var 1) (n_int 1)) [(s_ret (n_ite (n_cmp OpC.is (n_var 7) n_none) (n_tup [(n_sub (n_var 1) (n_int 2)), (n_var 4), (n_var 5), (n_var 6)]) n_none))] []),
    (s_ret (n_ite (n_cmp OpC.is (n_var 7) n_none) n_none (n_tup [(n_sub (n_var 1) (n_int 2)), (n_var 4), (n_sub (n_var 7) (n_int 1)), (n_var 6)])))]
noncomputable def f_Search_repeat : IFn := IFn.mk [[115, 101, 108, 102], [115, 116, 101, 112], [115, 116, 97, 116, 101], [112, 99], [97, 116], [103, 114, 111, 117, 112, 115], [108, 111, 111, 112, 115], [99, 111, 117, 110, 116], [98, 101, 103, 105, 110], [108, 101, 97, 115, 116], [109, 111, 115, 116], [105, 115, 95, 108, 97, 122, 121], [102, 105, 114, 115, 116], [98, 101, 104, 105, 110, 100], [111, 117, 116], [108, 101, 97, 118, 101], [110, 117, 109, 98, 101, 114], [111, 110, 99, 101]] 3 [(s_assign (t_tup [(t_var 3 false), (t_var 4 false), (t_var 5 false), (t_var 6 false)]) (n_var 2)),
    (s_if (n_cmp OpC.eq (n_sub (n_var 1) (n_int 0)) (n_gl 28)) [(s_ret (n_tup [(n_bin Op2.add (n_var 3) (n_int 1)), (n_var 4), (n_var 5), (n_call (n_gl 34) [(n_var 6), (n_sub (n_var 1) (n_int 1)), (n_tup [(n_int 0), (n_var 4)])])]))] []),
    (s_assign (t_tup [(t_var 7 false), (t_var 8 false)]) (n_sub (n_var 6) (n_sub (n_var 1) (n_int 1)))),
    (s_if (n_cmp OpC.eq (n_sub (n_var 1) (n_int 0)) (n_gl 30)) [(s_if (n_and [(n_cmp OpC.ge (n_var 7) (n_sub (n_var 1) (n_int 2))), (n_cmp OpC.eq (n_var 8) (n_var 4))]) [(s_ret n_none)] []),
    (s_ret (n_tup [(n_sub (n_var 1) (n_int 3)), (n_var 4), (n_var 5), (n_call (n_gl 34) [(n_var 6), (n_sub (n_var 1) (n_int 1)), (n_tup [(n_bin Op2.add (n_var 7) (n_int 1)), (n_var 4)])])]))] []),
    (s_assign (t_tup [(t_var 9 false), (t_var 10 false), (t_var 11 false), (t_var 12 false), (t_var 13 false), (t_var 14 false)]) (n_slc (n_var 1) (some (n_int 2)) none)),
    (s_assign (t_var 15 false) (n_tup [(n_var 14), (n_var 4), (n_var 5), (n_var 6)])),
    (s_if (n_and [(n_cmp OpC.isNot (n_var 10) n_none), (n_cmp OpC.ge (n_var 7) (n_var 10))]) [(s_ret (n_var 15))] []),
    (s_for (t_var 16 false) (i_range2 (n_var 12) (n_var 13)) [(s_assign (t_var 5 false) (n_call (n_gl 34) [(n_var 5), (n_bin Op2.sub (n_var 16) (n_int 1)), n_none]))]),
    (s_assign (t_var 17 false) (n_tup [(n_bin Op2.add (n_var 3) (n_int 1)), (n_var 4), (n_var 5), (n_call (n_gl 34) [(n_var 6), (n_sub (n_var 1) (n_int 1)), (n_tup [(n_var 7), (n_var 4)])])])),
    (s_if (n_cmp OpC.lt (n_var 7) (n_var 9)) [(s_ret (n_var 17))] []),
    (s_expr (n_meth (n_attr (n_var 0) Fld.waiting) Me.append [(n_ite (n_var 11) (n_var 17) (n_var 15))])),
    (s_ret (n_ite (n_var 11) (n_var 15) (n_var 17)))]
noncomputable def f_match_code : IFn := IFn.mk [[99, 111, 100, 101], [116, 101, 120, 116], [97, 116], [99, 111, 117, 110, 116], [105, 103, 110, 111, 114, 101, 115, 95, 99, 97, 115, 101], [105, 115, 95, 109, 117, 108, 116, 105, 108, 105, 110, 101], [108, 105, 109, 105, 116, 115], [115, 116, 101, 112, 115], [108, 111, 111, 112, 115], [115, 101, 97, 114, 99, 104], [102, 111, 117, 110, 100]] 7 [(s_assign (t_tup [(t_var 7 false), (t_var 8 false)]) (n_var 0)),
    (s_assign (t_var 9 false) (n_call (n_gl 35) [(n_var 7), (n_var 1), (n_var 4), (n_var 5), (n_var 6)])),
    (s_assign (t_var 10 false) (n_own (n_var 9) 6 [(n_int 0), (n_var 2), (n_bin Op2.mul (n_tup [n_none]) (n_var 3)), (n_bin Op2.add (n_bin Op2.mul (n_tup [(n_tup [(n_int 0), (n_int 0)])]) (n_var 8)) (n_bin Op2.mul (n_tup [(n_int 0)]) (n_bin Op2.add (n_var 3) (n_int 1))))])),
    (s_ret (n_ite (n_cmp OpC.is (n_var 10) n_none) n_none (n_tup [(n_sub (n_var 10) (n_int 0)), (n_call (n_gl 46) [(n_sub (n_var 10) (n_int 1))])])))]
noncomputable def f_match_at : IFn := IFn.mk [[116, 114, 101, 101], [116, 101, 120, 116], [97, 116], [102, 108, 97, 103, 115], [108, 105, 109, 105, 116, 115]] 5 [(s_ret (n_call (n_gl 36) [(n_call (n_gl 33) [(n_var 0)]), (n_var 1), (n_var 2), (n_call (n_gl 38) [(n_var 0)]), (n_cmp OpC.isIn (n_str [105]) (n_var 3)), (n_cmp OpC.isIn (n_str [109]) (n_var 3)), (n_var 4)]))]
noncomputable def f_group_count : IFn := IFn.mk [[116, 114, 101, 101], [102, 111, 117, 110, 100], [119, 97, 105, 116, 105, 110, 103], [112, 97, 114, 116]] 1 [(s_swap [1, 2] [(n_int 0), (n_lst true [(n_var 0)])]),
    (s_while (n_cmp OpC.gt (n_call (n_gl 39) [(n_var 2)]) (n_int 0)) [(s_assign (t_var 3 false) (n_meth (n_var 2) Me.pop [])),
    (s_if (n_call (n_gl 45) [(n_var 3), (n_gl 47)]) [(s_if (n_and [(n_cmp OpC.eq (n_call (n_gl 39) [(n_var 3)]) (n_int 3)), (n_cmp OpC.eq (n_sub (n_var 3) (n_int 0)) (n_str [103, 114, 111, 117, 112])), (n_cmp OpC.isNot (n_sub (n_var 3) (n_int 1)) n_none)]) [(s_aug 1 Op2.add (n_int 1))] []),
    (s_expr (n_meth (n_var 2) Me.extend [(n_var 3)]))] [])]),
    (s_ret (n_var 1))]
noncomputable def f_law_deal : IFn := IFn.mk [[115, 99, 114, 105, 112, 116], [110, 117, 109, 98, 101, 114, 115], [115, 101, 101, 100], [110, 117, 109, 98, 101, 114]] 1 [(s_acomp 1 [[110, 117, 109, 98, 101, 114]] (n_bin Op2.mod (n_call (n_gl 40) [(n_call (n_gl 41) [(n_var 0)])]) (n_int 1000003)) (t_var 0 false) (i_of (n_slc (n_var 0) none (some (n_int 40)))) [] []),
    (s_assign (t_var 2 false) (n_int 73)),
    (s_for (t_var 3 false) (i_of (n_var 1)) [(s_assign (t_var 2 false) (n_bin Op2.mod (n_bin Op2.add (n_bin Op2.add (n_bin Op2.mul (n_var 2) (n_int 16807)) (n_var 3)) (n_int 1)) (n_int 2147483647)))]),
    (s_ret (n_lst true [(n_var 1), (n_int 0), (n_var 2)]))]
noncomputable def f_law_take : IFn := IFn.mk [[100, 101, 97, 108], [109, 97, 110, 121]] 2 [(s_if (n_cmp OpC.lt (n_sub (n_var 0) (n_int 1)) (n_call (n_gl 39) [(n_sub (n_var 0) (n_int 0))])) [(s_assign (t_sub (n_var 0) (n_int 1)) (n_bin Op2.add (n_sub (n_var 0) (n_int 1)) (n_int 1))),
    (s_ret (n_bin Op2.mod (n_sub (n_sub (n_var 0) (n_int 0)) (n_bin Op2.sub (n_sub (n_var 0) (n_int 1)) (n_int 1))) (n_var 1)))] []),
    (s_assign (t_sub (n_var 0) (n_int 2)) (n_bin Op2.mod (n_bin Op2.add (n_bin Op2.mul (n_sub (n_var 0) (n_int 2)) (n_int 16807)) (n_int 101)) (n_int 2147483647))),
    (s_ret (n_bin Op2.mod (n_bin Op2.fdiv (n_sub (n_var 0) (n_int 2)) (n_int 64)) (n_var 1)))]
noncomputable def f_law_met : IFn := IFn.mk [[116, 114, 101, 101], [116, 101, 120, 116], [97, 116], [102, 108, 97, 103, 115]] 4 [(s_ret (n_call (n_gl 37) [(n_var 0), (n_var 1), (n_var 2), (n_var 3), (n_call (n_gl 15) [])]))]
noncomputable def f_law_folded : IFn := IFn.mk [[99, 111, 100, 101]] 1 [(s_ret (n_dget [(97, 65), (98, 66), (228, 196)] (n_var 0) (n_var 0)))]
noncomputable def f_law_signs_right : IFn := IFn.mk [[100, 101, 97, 108], [115, 105, 103, 110, 115], [119, 97, 110, 116, 101, 100], [104, 101, 114, 101], [102, 108, 97, 103, 115], [105, 115, 95, 115, 97, 109, 101], [105, 115, 95, 105, 110], [105, 115, 95, 111, 117, 116], [116, 114, 101, 101]] 1 [(s_assign (t_var 1 false) (n_bin Op2.add (n_lst false [(n_int 97), (n_int 65), (n_int 98), (n_int 196), (n_int 228), (n_int 48), (n_int 133)]) (n_gl 51))),
    (s_swap [2, 3, 4] [(n_sub (n_var 1) (n_call (n_gl 53) [(n_var 0), (n_int 6)])), (n_sub (n_var 1) (n_call (n_gl 53) [(n_var 0), (n_int 11)])), (n_sub (n_lst false [(n_str []), (n_str [105])]) (n_call (n_gl 53) [(n_var 0), (n_int 2)]))]),
    (s_assign (t_var 5 false) (n_or [(n_cmp OpC.eq (n_var 2) (n_var 3)), (n_and [(n_cmp OpC.eq (n_var 4) (n_str [105])), (n_cmp OpC.eq (n_call (n_gl 55) [(n_var 2)]) (n_call (n_gl 55) [(n_var 3)]))])])),
    (s_if (n_cmp OpC.ne (n_call (n_gl 54) [(n_tup [(n_str [99, 104, 97, 114]), (n_var 2)]), (n_call (n_gl 43) [(n_var 3)]), (n_int 0), (n_var 4)]) (n_ite (n_var 5) (n_tup [(n_int 1), (n_lst false [])]) n_none)) [(s_ret (n_bool false))] []),
    (s_if (n_cmp OpC.ne (n_call (n_gl 54) [(n_tup [(n_str [97, 110, 121])]), (n_bin Op2.add (n_str [120]) (n_call (n_gl 43) [(n_var 3)])), (n_int 1), (n_var 4)]) (n_ite (n_cmp OpC.isIn (n_var 3) (n_gl 51)) n_none (n_tup [(n_int 2), (n_lst false [])]))) [(s_ret (n_bool false))] []),
    (s_assign (t_var 6 false) (n_or [(n_cmp OpC.isIn (n_var 3) (n_tup [(n_int 97), (n_int 98), (n_int 228)])), (n_and [(n_cmp OpC.eq (n_var 4) (n_str [105])), (n_cmp OpC.isIn (n_var 3) (n_tup [(n_int 65), (n_int 196)]))])])),
    (s_assign (t_var 7 false) (n_cmp OpC.eq (n_call (n_gl 53) [(n_var 0), (n_int 2)]) (n_int 1))),
    (s_assign (t_var 8 false) (n_tup [(n_str [99, 108, 97, 115, 115]), (n_tup [(n_tup [(n_int 97), (n_int 99)]), (n_tup [(n_int 228), (n_int 228)])]), (n_var 7)])),
    (s_if (n_cmp OpC.ne (n_call (n_gl 54) [(n_var 8), (n_call (n_gl 43) [(n_var 3)]), (n_int 0), (n_var 4)]) (n_ite (n_cmp OpC.ne (n_var 6) (n_var 7)) (n_tup [(n_int 1), (n_lst false [])]) n_none)) [(s_ret (n_bool false))] []),
    (s_ret (n_and [(n_cmp OpC.is (n_call (n_gl 54) [(n_var 8), (n_str []), (n_int 0), (n_var 4)]) n_none), (n_cmp OpC.is (n_call (n_gl 54) [(n_tup [(n_str [97, 110, 121])]), (n_str [120]), (n_int 1), (n_var 4)]) n_none)]))]
noncomputable def f_law_places_right : IFn := IFn.mk [[100, 101, 97, 108], [116, 101, 120, 116], [97, 116], [102, 108, 97, 103, 115], [105, 115, 95, 97, 116, 95, 98, 101, 103, 105, 110], [105, 115, 95, 97, 116, 95, 101, 110, 100], [119, 111, 114, 100], [105, 115, 95, 111, 117, 116], [105, 115, 95, 98, 111, 114, 100, 101, 114]] 1 [(s_assign (t_var 1 false) (n_bin Op2.add (n_bin Op2.add (n_str [97]) (n_call (n_gl 43) [(n_sub (n_bin Op2.add (n_lst false [(n_int 98)]) (n_gl 51)) (n_call (n_gl 53) [(n_var 0), (n_int 5)]))])) (n_str [98]))),
    (s_swap [2, 3] [(n_call (n_gl 53) [(n_var 0), (n_int 4)]), (n_sub (n_lst false [(n_str []), (n_str [105]), (n_str [109])]) (n_call (n_gl 53) [(n_var 0), (n_int 3)]))]),
    (s_assign (t_var 4 false) (n_or [(n_cmp OpC.eq (n_var 2) (n_int 0)), (n_and [(n_cmp OpC.eq (n_var 3) (n_str [109])), (n_cmp OpC.isIn (n_call (n_gl 42) [(n_sub (n_var 1) (n_bin Op2.sub (n_var 2) (n_int 1)))]) (n_gl 51))])])),
    (s_assign (t_var 5 false) (n_or [(n_cmp OpC.eq (n_var 2) (n_int 3)), (n_and [(n_cmp OpC.eq (n_var 3) (n_str [109])), (n_cmp OpC.isIn (n_call (n_gl 42) [(n_sub (n_var 1) (n_var 2))]) (n_gl 51))])])),
    (s_if (n_cmp OpC.ne (n_call (n_gl 54) [(n_tup [(n_str [115, 116, 97, 114, 116])]), (n_var 1), (n_var 2), (n_var 3)]) (n_ite (n_var 4) (n_tup [(n_var 2), (n_lst false [])]) n_none)) [(s_ret (n_bool false))] []),
    (s_if (n_cmp OpC.ne (n_call (n_gl 54) [(n_tup [(n_str [101, 110, 100])]), (n_var 1), (n_var 2), (n_var 3)]) (n_ite (n_var 5) (n_tup [(n_var 2), (n_lst false [])]) n_none)) [(s_ret (n_bool false))] []),
    (s_swap [6, 2, 7] [(n_str [97, 95, 32, 57, 45, 90]), (n_call (n_gl 53) [(n_var 0), (n_int 7)]), (n_cmp OpC.eq (n_call (n_gl 53) [(n_var 0), (n_int 2)]) (n_int 1))]),
    (s_assign (t_var 8 false) (n_cmp OpC.isIn (n_var 2) (n_tup [(n_int 0), (n_int 2), (n_int 3), (n_int 4), (n_int 5), (n_int 6)]))),
    (s_ret (n_cmp OpC.eq (n_call (n_gl 54) [(n_tup [(n_str [98, 111, 117, 110, 100, 97, 114, 121]), (n_var 7)]), (n_var 6), (n_var 2), (n_str [])]) (n_ite (n_cmp OpC.ne (n_var 8) (n_var 7)) (n_tup [(n_var 2), (n_lst false [])]) n_none)))]
noncomputable def f_law_bounds_right : IFn := IFn.mk [[100, 101, 97, 108], [109, 97, 110, 121], [108, 101, 97, 115, 116], [105, 115, 95, 108, 97, 122, 121], [109, 111, 115, 116], [116, 114, 101, 101], [103, 114, 101, 97, 116, 101, 115, 116], [100, 117, 101], [105, 115, 95, 109, 101, 116]] 1 [(s_swap [1, 2, 3] [(n_call (n_gl 53) [(n_var 0), (n_int 6)]), (n_call (n_gl 53) [(n_var 0), (n_int 4)]), (n_cmp OpC.eq (n_call (n_gl 53) [(n_var 0), (n_int 2)]) (n_int 1))]),
    (s_assign (t_var 4 false) (n_sub (n_lst false [n_none, (n_var 2), (n_bin Op2.add (n_var 2) (n_int 1)), (n_bin Op2.add (n_var 2) (n_int 2))]) (n_call (n_gl 53) [(n_var 0), (n_int 4)]))),
    (s_assign (t_var 5 false) (n_tup [(n_str [114, 101, 112, 101, 97, 116]), (n_var 2), (n_var 4), (n_var 3), (n_tup [(n_str [99, 104, 97, 114]), (n_int 97)]), (n_int 1), (n_int 1)])),
    (s_assign (t_var 6 false) (n_ite (n_cmp OpC.is (n_var 4) n_none) (n_var 1) (n_call (n_gl 50) [(n_var 1), (n_var 4)]))),
    (s_assign (t_var 7 false) (n_ite (n_cmp OpC.lt (n_var 1) (n_var 2)) n_none (n_tup [(n_ite (n_var 3) (n_var 2) (n_var 6)), (n_lst false [])]))),
    (s_if (n_cmp OpC.ne (n_call (n_gl 54) [(n_var 5), (n_bin Op2.mul (n_str [97]) (n_var 1)), (n_int 0), (n_str [])]) (n_var 7)) [(s_ret (n_bool false))] []),
    (s_assign (t_var 8 false) (n_and [(n_cmp OpC.ge (n_var 1) (n_var 2)), (n_or [(n_cmp OpC.is (n_var 4) n_none), (n_cmp OpC.le (n_var 1) (n_var 4))])])),
    (s_ret (n_cmp OpC.eq (n_call (n_gl 54) [(n_tup [(n_str [115, 101, 113]), (n_tup [(n_var 5), (n_tup [(n_str [99, 104, 97, 114]), (n_int 98)])])]), (n_bin Op2.add (n_bin Op2.mul (n_str [97]) (n_var 1)) (n_str [98])), (n_int 0), (n_str [])]) (n_ite (n_var 8) (n_tup [(n_bin Op2.add (n_var 1) (n_int 1)), (n_lst false [])]) n_none)))]
noncomputable def f_law_groups_right : IFn := IFn.mk [[100, 101, 97, 108], [109, 97, 110, 121], [115, 105, 122, 101], [104, 101, 108, 100], [100, 117, 101], [102, 108, 97, 103, 115]] 1 [(s_swap [1, 2] [(n_call (n_gl 53) [(n_var 0), (n_int 7)]), (n_bin Op2.add (n_int 1) (n_call (n_gl 53) [(n_var 0), (n_int 3)]))]),
    (s_assign (t_var 3 false) (n_tup [(n_str [103, 114, 111, 117, 112]), (n_int 1), (n_tup [(n_str [114, 101, 112, 101, 97, 116]), (n_var 2), (n_var 2), (n_bool false), (n_tup [(n_str [99, 104, 97, 114]), (n_int 97)]), (n_int 1), (n_int 1)])])),
    (s_assign (t_var 4 false) (n_ite (n_cmp OpC.ge (n_var 1) (n_bin Op2.mul (n_int 2) (n_var 2))) (n_tup [(n_bin Op2.mul (n_int 2) (n_var 2)), (n_lst false [(n_tup [(n_int 0), (n_var 2)])])]) n_none)),
    (s_if (n_cmp OpC.ne (n_call (n_gl 54) [(n_tup [(n_str [115, 101, 113]), (n_tup [(n_var 3), (n_tup [(n_str [98, 97, 99, 107]), (n_int 1)])])]), (n_bin Op2.mul (n_str [97]) (n_var 1)), (n_int 0), (n_str [])]) (n_var 4)) [(s_ret (n_bool false))] []),
    (s_if (n_cmp OpC.ne (n_call (n_gl 54) [(n_tup [(n_str [115, 101, 113]), (n_tup [(n_tup [(n_str [98, 97, 99, 107]), (n_int 1)]), (n_var 3)])]), (n_bin Op2.add (n_str [120]) (n_bin Op2.mul (n_str [97]) (n_var 2))), (n_int 1), (n_str [])]) (n_tup [(n_bin Op2.add (n_int 1) (n_var 2)), (n_lst false [(n_tup [(n_int 1), (n_bin Op2.add (n_int 1) (n_var 2))])])])) [(s_ret (n_bool false))] []),
    (s_assign (t_var 5 false) (n_sub (n_lst false [(n_str []), (n_str [105])]) (n_call (n_gl 53) [(n_var 0), (n_int 2)]))),
    (s_assign (t_var 4 false) (n_ite (n_cmp OpC.eq (n_var 5) (n_str [105])) (n_tup [(n_int 2), (n_lst false [(n_tup [(n_int 0), (n_int 1)])])]) n_none)),
    (s_ret (n_cmp OpC.eq (n_call (n_gl 54) [(n_tup [(n_str [115, 101, 113]), (n_tup [(n_tup [(n_str [103, 114, 111, 117, 112]), (n_int 1), (n_tup [(n_str [97, 110, 121])])]), (n_tup [(n_str [98, 97, 99, 107]), (n_int 1)])])]), (n_sub (n_lst false [(n_str [97, 65]), (n_str [65, 97])]) (n_call (n_gl 53) [(n_var 0), (n_int 2)])), (n_int 0), (n_var 5)]) (n_var 4)))]
noncomputable def f_law_choices_right : IFn := IFn.mk [[100, 101, 97, 108], [97], [98], [101, 105, 116, 104, 101, 114], [116, 101, 120, 116], [105, 115, 95, 111, 117, 116], [100, 117, 101], [105, 100, 108, 101]] 1 [(s_assign (t_tup [(t_var 1 false), (t_var 2 false)]) (n_tup [(n_tup [(n_str [99, 104, 97, 114]), (n_int 97)]), (n_tup [(n_str [99, 104, 97, 114]), (n_int 98)])])),
    (s_assign (t_var 3 false) (n_tup [(n_str [97, 108, 116]), (n_tup [(n_tup [(n_str [115, 101, 113]), (n_tup [(n_var 1)])]), (n_tup [(n_str [115, 101, 113]), (n_tup [(n_var 1), (n_var 2)])]), (n_tup [(n_str [115, 101, 113]), (n_tup [])])])])),
    (s_assign (t_var 4 false) (n_sub (n_lst false [(n_str [97, 98]), (n_str [97]), (n_str [98]), (n_str [])]) (n_call (n_gl 53) [(n_var 0), (n_int 4)]))),
    (s_if (n_cmp OpC.ne (n_call (n_gl 54) [(n_var 3), (n_var 4), (n_int 0), (n_str [])]) (n_tup [(n_call (n_gl 41) [(n_cmp OpC.eq (n_slc (n_var 4) none (some (n_int 1))) (n_str [97]))]), (n_lst false [])])) [(s_ret (n_bool false))] []),
    (s_if (n_cmp OpC.ne (n_call (n_gl 54) [(n_tup [(n_str [115, 101, 113]), (n_tup [(n_var 3), (n_tup [(n_str [101, 110, 100])])])]), (n_var 4), (n_int 0), (n_str [])]) (n_ite (n_cmp OpC.eq (n_var 4) (n_str [98])) n_none (n_tup [(n_call (n_gl 39) [(n_var 4)]), (n_lst false [])]))) [(s_ret (n_bool false))] []),
    (s_assign (t_var 5 false) (n_cmp OpC.eq (n_call (n_gl 53) [(n_var 0), (n_int 2)]) (n_int 1))),
    (s_assign (t_var 6 false) (n_ite (n_and [(n_cmp OpC.eq (n_slc (n_var 4) none (some (n_int 1))) (n_str [97])), (n_cmp OpC.ne (n_cmp OpC.eq (n_var 4) (n_str [97, 98])) (n_var 5))]) (n_tup [(n_int 1), (n_lst false [(n_ite (n_var 5) n_none (n_tup [(n_int 0), (n_int 1)]))])]) n_none)),
    (s_if (n_cmp OpC.ne (n_call (n_gl 54) [(n_tup [(n_str [115, 101, 113]), (n_tup [(n_tup [(n_str [108, 111, 111, 107]), (n_var 5), (n_tup [(n_str [115, 101, 113]), (n_tup [(n_tup [(n_str [103, 114, 111, 117, 112]), (n_int 1), (n_var 1)]), (n_var 2)])])]), (n_var 1)])]), (n_var 4), (n_int 0), (n_str [])]) (n_var 6)) [(s_ret (n_bool false))] []),
    (s_assign (t_var 7 false) (n_tup [(n_str [103, 114, 111, 117, 112]), (n_int 1), (n_tup [(n_str [114, 101, 112, 101, 97, 116]), (n_int 0), (n_int 1), (n_bool false), (n_var 1), (n_int 2), (n_int 2)])])),
    (s_assign (t_var 6 false) (n_ite (n_cmp OpC.eq (n_slc (n_var 4) none (some (n_int 1))) (n_str [97])) (n_tup [(n_int 1), (n_lst false [(n_tup [(n_int 0), (n_int 1)])])]) (n_tup [(n_int 0), (n_lst false [n_none])]))),
    (s_ret (n_cmp OpC.eq (n_call (n_gl 54) [(n_tup [(n_str [114, 101, 112, 101, 97, 116]), (n_int 0), n_none, (n_bool false), (n_var 7), (n_int 1), (n_int 2)]), (n_var 4), (n_int 0), (n_str [])]) (n_var 6)))]
noncomputable def f_law_steps_right : IFn := IFn.mk [[100, 101, 97, 108], [109, 97, 110, 121], [116, 114, 101, 101], [101]] 1 [(s_assign (t_var 1 false) (n_bin Op2.add (n_int 1) (n_call (n_gl 53) [(n_var 0), (n_int 5)]))),
    (s_assign (t_var 2 false) (n_tup [(n_str [115, 101, 113]), (n_call (n_gl 47) [(n_bin Op2.mul (n_lst false [(n_tup [(n_str [99, 104, 97, 114]), (n_int 97)])]) (n_var 1))])])),
    (s_if (n_cmp OpC.ne (n_call (n_gl 37) [(n_var 2), (n_bin Op2.mul (n_str [97]) (n_var 1)), (n_int 0), (n_str []), (n_callk (n_gl 15) (n_bin Op2.add (n_var 1) (n_int 1)))]) (n_tup [(n_var 1), (n_lst false [])])) [(s_ret (n_bool false))] []),
    (s_try [(s_expr (n_call (n_gl 37) [(n_var 2), (n_bin Op2.mul (n_str [97]) (n_var 1)), (n_int 0), (n_str []), (n_callk (n_gl 15) (n_var 1))]))] 3 [(s_ret (n_cmp OpC.eq (n_attr (n_var 3) Fld.kind) (n_str [82, 97, 110, 103, 101, 69, 114, 114, 111, 114])))]),
    (s_ret (n_bool false))]
noncomputable def f_law : IFn := IFn.mk [[115, 99, 114, 105, 112, 116], [100, 101, 97, 108], [116, 117, 114, 110]] 1 [(s_assign (t_var 1 false) (n_call (n_gl 52) [(n_var 0)])),
    (s_for (t_var 2 false) (i_range1 (n_int 2)) [(s_if (n_or [(n_not (n_call (n_gl 56) [(n_var 1)])), (n_not (n_call (n_gl 57) [(n_var 1)])), (n_not (n_call (n_gl 58) [(n_var 1)]))]) [(s_ret (n_bool false))] []),
    (s_if (n_or [(n_not (n_call (n_gl 59) [(n_var 1)])), (n_not (n_call (n_gl 60) [(n_var 1)])), (n_not (n_call (n_gl 61) [(n_var 1)]))]) [(s_ret (n_bool false))] [])]),
    (s_ret (n_bool true))]
noncomputable def tabs : Tabs := { gnames := [[76, 73, 78, 69, 95, 69, 78, 68, 83], [105, 115, 95, 108, 105, 110, 101, 95, 101, 110, 100], [71, 82, 69, 65, 84], [84, 85, 82, 78, 83], [71, 82, 69, 65, 84, 95, 65, 76, 79, 78, 69], [83, 77, 65, 76, 76, 95, 65, 76, 79, 78, 69], [71, 82, 69, 65, 84, 95, 87, 73, 68, 69], [115, 109, 97, 108, 108, 95, 99, 111, 100, 101], [103, 114, 101, 97, 116, 95, 99, 111, 100, 101], [87, 79, 82, 68, 83], [104, 97, 115], [105, 115, 95, 119, 111, 114, 100], [99, 97, 110, 111, 110], [104, 97, 115, 95, 102, 111, 108, 100, 101, 100], [74, 83, 70, 97, 105, 108], [76, 105, 109, 105, 116, 115], [67, 72, 65, 82], [65, 78, 89], [67, 76, 65, 83, 83], [83, 84, 65, 82, 84], [69, 78, 68], [66, 79, 85, 78, 68, 65, 82, 89], [79, 80, 69, 78], [67, 76, 79, 83, 69], [66, 65, 67, 75], [76, 79, 79, 75], [83, 80, 76, 73, 84], [74, 85, 77, 80], [76, 79, 79, 80], [72, 69, 65, 68], [84, 65, 73, 76], [77, 69, 84], [80, 97, 116, 116, 101, 114, 110, 67, 111, 100, 101], [112, 97, 116, 116, 101, 114, 110, 95, 99, 111, 100, 101], [99, 104, 97, 110, 103, 101, 100], [83, 101, 97, 114, 99, 104], [109, 97, 116, 99, 104, 95, 99, 111, 100, 101], [109, 97, 116, 99, 104, 95, 97, 116], [103, 114, 111, 117, 112, 95, 99, 111, 117, 110, 116], [108, 101, 110], [97, 98, 115], [105, 110, 116], [111, 114, 100], [99, 104, 114], [97, 110, 121], [105, 115, 105, 110, 115, 116, 97, 110, 99, 101], [108, 105, 115, 116], [116, 117, 112, 108, 101], [114, 97, 110, 103, 101], [122, 105, 112], [109, 105, 110], [95, 108, 97, 119, 95, 101, 110, 100, 115], [95, 108, 97, 119, 95, 100, 101, 97, 108], [95, 108, 97, 119, 95, 116, 97, 107, 101], [95, 108, 97, 119, 95, 109, 101, 116], [95, 108, 97, 119, 95, 102, 111, 108, 100, 101, 100], [95, 108, 97, 119, 95, 115, 105, 103, 110, 115, 95, 114, 105, 103, 104, 116], [95, 108, 97, 119, 95, 112, 108, 97, 99, 101, 115, 95, 114, 105, 103, 104, 116], [95, 108, 97, 119, 95, 98, 111, 117, 110, 100, 115, 95, 114, 105, 103, 104, 116], [95, 108, 97, 119, 95, 103, 114, 111, 117, 112, 115, 95, 114, 105, 103, 104, 116], [95, 108, 97, 119, 95, 99, 104, 111, 105, 99, 101, 115, 95, 114, 105, 103, 104, 116], [95, 108, 97, 119, 95, 115, 116, 101, 112, 115, 95, 114, 105, 103, 104, 116], [108, 97, 119]], mnames := [[101, 109, 105, 116], [112, 117, 116], [112, 108, 97, 105, 110], [112, 117, 116, 95, 99, 104, 111, 105, 99, 101], [112, 117, 116, 95, 103, 114, 111, 117, 112], [112, 117, 116, 95, 114, 101, 112, 101, 97, 116], [114, 117, 110], [97, 100, 118, 97, 110, 99, 101], [116, 97, 107, 101, 115], [115, 116, 97, 110, 100, 115], [97, 103, 97, 105, 110], [108, 111, 111, 107], [114, 101, 112, 101, 97, 116]] }
noncomputable def mthL : Cls → Nat → Option Nat
  | .pcode, i => ([some 10, some 11, some 12, some 13, some 14, some 15, none, none, none, none, none, none, none][i]?).join
  | .search, i => ([none, none, none, none, none, none, some 19, some 20, some 21, some 22, some 23, some 24, some 25][i]?).join
  | _, _ => none
noncomputable def iniL : Cls → Option Nat
  | .fail => none
  | .limits => some 8
  | .pcode => some 9
  | .search => some 18
noncomputable def valT (k : Nat) : Option AV := (cond (Nat.ble 32 k) (cond (Nat.ble 48 k) (cond (Nat.ble 56 k) (cond (Nat.ble 60 k) (cond (Nat.ble 62 k) (cond (Nat.ble 63 k) none (some (.fn 39))) (cond (Nat.ble 61 k) (some (.fn 38)) (some (.fn 37)))) (cond (Nat.ble 58 k) (cond (Nat.ble 59 k) (some (.fn 36)) (some (.fn 35))) (cond (Nat.ble 57 k) (some (.fn 34)) (some (.fn 33))))) (cond (Nat.ble 52 k) (cond (Nat.ble 54 k) (cond (Nat.ble 55 k) (some (.fn 32)) (some (.fn 31))) (cond (Nat.ble 53 k) (some (.fn 30)) (some (.fn 29)))) (cond (Nat.ble 50 k) (cond (Nat.ble 51 k) (some (.lst [.int 10, .int 13, .int 8232, .int 8233])) (some (.bi .min))) (cond (Nat.ble 49 k) (some (.bi .zip)) (some (.bi .range)))))) (cond (Nat.ble 40 k) (cond (Nat.ble 44 k) (cond (Nat.ble 46 k) (cond (Nat.ble 47 k) (some (.bi .tuple)) (some (.bi .list))) (cond (Nat.ble 45 k) (some (.bi .isinstance)) (some (.bi .any)))) (cond (Nat.ble 42 k) (cond (Nat.ble 43 k) (some (.bi .chr)) (some (.bi .ord))) (cond (Nat.ble 41 k) (some (.bi .int)) (some (.bi .abs))))) (cond (Nat.ble 36 k) (cond (Nat.ble 38 k) (cond (Nat.ble 39 k) (some (.bi .len)) (some (.fn 28))) (cond (Nat.ble 37 k) (some (.fn 27)) (some (.fn 26)))) (cond (Nat.ble 34 k) (cond (Nat.ble 35 k) (some (.cls .search)) (some (.fn 17))) (cond (Nat.ble 33 k) (some (.fn 16)) (some (.cls .pcode))))))) (cond (Nat.ble 16 k) (cond (Nat.ble 24 k) (cond (Nat.ble 28 k) (cond (Nat.ble 30 k) (cond (Nat.ble 31 k) (some (.int 15)) (some (.int 14))) (cond (Nat.ble 29 k) (some (.int 13)) (some (.int 12)))) (cond (Nat.ble 26 k) (cond (Nat.ble 27 k) (some (.int 11)) (some (.int 10))) (cond (Nat.ble 25 k) (some (.int 9)) (some (.int 8))))) (cond (Nat.ble 20 k) (cond (Nat.ble 22 k) (cond (Nat.ble 23 k) (some (.int 7)) (some (.int 6))) (cond (Nat.ble 21 k) (some (.int 5)) (some (.int 4)))) (cond (Nat.ble 18 k) (cond (Nat.ble 19 k) (some (.int 3)) (some (.int 2))) (cond (Nat.ble 17 k) (some (.int 1)) (some (.int 0)))))) (cond (Nat.ble 8 k) (cond (Nat.ble 12 k) (cond (Nat.ble 14 k) (cond (Nat.ble 15 k) (some (.cls .limits)) (some (.cls .fail))) (cond (Nat.ble 13 k) (some (.fn 6)) (some (.fn 5)))) (cond (Nat.ble 10 k) (cond (Nat.ble 11 k) (some (.fn 4)) (some (.fn 3))) (cond (Nat.ble 9 k) (some (.tup [.tup [.int 48, .int 57], .tup [.int 65, .int 90], .tup [.int 95, .int 95], .tup [.int 97, .int 122]])) (some (.fn 2))))) (cond (Nat.ble 4 k) (cond (Nat.ble 6 k) (cond (Nat.ble 7 k) (some (.fn 1)) (some (.dct [(223, .str [83, 83]), (329, .str [700, 78]), (912, .str [921, 776, 769]), (944, .str [933, 776, 769]), (1415, .str [1333, 1362])]))) (cond (Nat.ble 5 k) (some (.dct [(255, .int 376), (181, .int 924), (305, .int 73), (383, .int 83), (962, .int 931)])) (some (.dct [(376, .int 255), (304, .int 105)])))) (cond (Nat.ble 2 k) (cond (Nat.ble 3 k) (some (.lst [.tup [.int 256, .int 303], .tup [.int 306, .int 311], .tup [.int 313, .int 328], .tup [.int 330, .int 375], .tup [.int 377, .int 382], .tup [.int 984, .int 1007], .tup [.int 1120, .int 1153], .tup [.int 1162, .int 1215], .tup [.int 1232, .int 1319], .tup [.int 7680, .int 7829], .tup [.int 7840, .int 7935]])) (some (.lst [.tup [.int 65, .int 90, .int 32], .tup [.int 192, .int 214, .int 32], .tup [.int 216, .int 222, .int 32], .tup [.int 902, .int 902, .int 38], .tup [.int 904, .int 906, .int 37], .tup [.int 908, .int 908, .int 64], .tup [.int 910, .int 911, .int 63], .tup [.int 913, .int 929, .int 32], .tup [.int 931, .int 939, .int 32], .tup [.int 1024, .int 1039, .int 80], .tup [.int 1040, .int 1071, .int 32], .tup [.int 1329, .int 1366, .int 48]]))) (cond (Nat.ble 1 k) (some (.fn 0)) (some (.lst [.int 10, .int 13, .int 8232, .int 8233]))))))))
noncomputable def fnT (k : Nat) : Option IFn := (cond (Nat.ble 20 k) (cond (Nat.ble 30 k) (cond (Nat.ble 35 k) (cond (Nat.ble 38 k) (cond (Nat.ble 39 k) (cond (Nat.ble 40 k) none (some f_law)) (some f_law_steps_right)) (cond (Nat.ble 36 k) (cond (Nat.ble 37 k) (some f_law_choices_right) (some f_law_groups_right)) (some f_law_bounds_right))) (cond (Nat.ble 32 k) (cond (Nat.ble 33 k) (cond (Nat.ble 34 k) (some f_law_places_right) (some f_law_signs_right)) (some f_law_folded)) (cond (Nat.ble 31 k) (some f_law_met) (some f_law_take)))) (cond (Nat.ble 25 k) (cond (Nat.ble 27 k) (cond (Nat.ble 28 k) (cond (Nat.ble 29 k) (some f_law_deal) (some f_group_count)) (some f_match_at)) (cond (Nat.ble 26 k) (some f_match_code) (some f_Search_repeat))) (cond (Nat.ble 22 k) (cond (Nat.ble 23 k) (cond (Nat.ble 24 k) (some f_Search_look) (some f_Search_again)) (some f_Search_stands)) (cond (Nat.ble 21 k) (some f_Search_takes) (some f_Search_advance))))) (cond (Nat.ble 10 k) (cond (Nat.ble 15 k) (cond (Nat.ble 17 k) (cond (Nat.ble 18 k) (cond (Nat.ble 19 k) (some f_Search_run) (some f_Search_init)) (some f_changed)) (cond (Nat.ble 16 k) (some f_pattern_code) (some f_PatternCode_put_repeat))) (cond (Nat.ble 12 k) (cond (Nat.ble 13 k) (cond (Nat.ble 14 k) (some f_PatternCode_put_group) (some f_PatternCode_put_choice)) (some f_PatternCode_plain)) (cond (Nat.ble 11 k) (some f_PatternCode_put) (some f_PatternCode_emit)))) (cond (Nat.ble 5 k) (cond (Nat.ble 7 k) (cond (Nat.ble 8 k) (cond (Nat.ble 9 k) (some f_PatternCode_init) (some f_Limits_init)) (some f_JSFail_init)) (cond (Nat.ble 6 k) (some f_has_folded) (some f_canon))) (cond (Nat.ble 2 k) (cond (Nat.ble 3 k) (cond (Nat.ble 4 k) (some f_is_word) (some f_has)) (some f_great_code)) (cond (Nat.ble 1 k) (some f_small_code) (some f_is_line_end))))))
noncomputable def GlT : Glo := ⟨valT, mthL, iniL⟩
end
section
set_option Elab.async false
set_option autoImplicit false
set_option linter.unusedVariables false
set_option linter.unusedSectionVars false
set_option maxRecDepth 100000
set_option backward.match.sparseCases false
set_option tactic.hygienic false
set_option genSizeOf false
set_option genInjectivity false
open PySem PySem.W PyProof.Rows PySem.Calls
noncomputable def fnAs : List Addr := [22, 57, 64, 76, 83, 90, 95, 109, 130, 151, 158, 165, 172, 179, 186, 193, 207, 214, 228, 235, 242, 249, 256, 263, 270, 277, 291, 298, 305, 311, 318, 325, 332, 339, 346, 353, 360, 367, 374, 381]
noncomputable def fnA (k : Nat) : Addr := fnAs.getD k 0
noncomputable def clA : Cls → Addr
  | .fail => 112
  | .limits => 133
  | .pcode => 196
  | .search => 280
noncomputable def isoL (k : Nat) : Bool := k == 31
theorem val_none (n : Nat) : valT (n + 63) = none := by kernel_rfl
theorem fn_none (n : Nat) : fnT (n + 40) = none := by kernel_rfl
noncomputable abbrev mthP : List (Nat × Nat) := [(0, 10), (1, 11), (2, 12), (3, 13), (4, 14), (5, 15)]
noncomputable abbrev mthS : List (Nat × Nat) := [(6, 19), (7, 20), (8, 21), (9, 22), (10, 23), (11, 24), (12, 25)]
theorem mth_mem {c : Cls} {i j : Nat} (h : mthL c i = some j) : (i, j) ∈ (match c with | .pcode => mthP | .search => mthS | _ => []) := by
  cases c with
  | fail => cases h
  | limits => cases h
  | pcode =>
    match i, h with
    | 0, h => cases h; decide
    | 1, h => cases h; decide
    | 2, h => cases h; decide
    | 3, h => cases h; decide
    | 4, h => cases h; decide
    | 5, h => cases h; decide
    | 6, h | 7, h | 8, h | 9, h | 10, h | 11, h | 12, h | n + 13, h => cases h
  | search =>
    match i, h with
    | 6, h => cases h; decide
    | 7, h => cases h; decide
    | 8, h => cases h; decide
    | 9, h => cases h; decide
    | 10, h => cases h; decide
    | 11, h => cases h; decide
    | 12, h => cases h; decide
    | 0, h | 1, h | 2, h | 3, h | 4, h | 5, h | n + 13, h => cases h
structure FragOk (K : Frag) : Prop where
  ns : nsB K mainGlobals = true
  vals : ((List.range 63).all fun k => onS (fun n => onS (valB K fnA clA n) (valT k)) tabs.gnames[k]?) = true
  law : nsK K mainGlobals (toS [108, 97, 119]) = some (.ref 381)
  rng : (nsK K mainGlobals (toS [114, 97, 110, 103, 101])).isNone = true
  zip : (nsK K mainGlobals (toS [122, 105, 112])).isNone = true
  fns : ((List.range 40).all fun k => k == 8 || onS (fun f => fnB K tabs f (fnA k)) (fnT k)) = true
  limC : onS (fun fd => coreB K tabs f_Limits_init fd) (fdAt K 130) = true
  lim : LimOk K 130
  cl1 : clsB K tabs fnA 133 (some 8) [] = true
  cl2 : clsB K tabs fnA 196 (some 9) mthP = true
  cl3 : clsB K tabs fnA 280 (some 18) mthS = true
  fail : failB K fnA 112 7 = true
  ini : fnB K tabs iniFn 109 = true
  lc7 : locB K iniNames 109 = true
  lc38 : locB K f_law_steps_right.names 374 = true
  lc39 : locB K f_law.names 381 = true
noncomputable def theBase (prog : Program) (w : World) (h : Heap) (K : Frag) (mb : Str → Option Value) : Base := ⟨prog, w, h, tabs, GlT, fnA, clA, nsK K mainGlobals, mb⟩
noncomputable def noneAt : Option (Option Value) → Bool
  | some none => true
  | _ => false
theorem meth_obj : ∀ n ∈ tabs.mnames, ∃ y, typeLookup (.type "object") (toS n) = pure y := by
  have h : tabs.mnames.all (fun n => noneAt (fastLookup "object" (toS n))) = true := by kernel_rfl
  intro n hn
  have h := List.all_eq_true.mp h n hn
  refine ⟨none, ?_⟩
  rw [typeLookup_type, builtinLookup_eq_fast]
  cases q : fastLookup "object" (toS n) with
  | none => rw [q] at h; exact bad h
  | some o =>
    cases o with
    | none => rfl
    | some v => rw [q] at h; exact bad h
section
variable {K : Frag} (FK : FragOk K) {prog : Program} {w : World} {h : Heap} {mb : Str → Option Value} (X : K.In h) (nb : h.Ns builtinsNs mb) (hb : ∀ x : Str, x ≠ "__name__" → mb x = bootBuiltins x) (nl : h.NoLimit)
include FK X nb hb nl
theorem base_ok : BaseOk (theBase prog w h K mb) where
  glb := nsB_i X FK.ns
  blt := nb
  glbT := fun m => nomatch m
  bltT := fun m => nomatch m
  lim := nl
  limT := fun m => nomatch m
  val := fun k v hv => by
    have hv : valT k = some v := hv
    have hk : k < 63 := Nat.lt_of_not_le fun q => by
      obtain ⟨n, rfl⟩ := Nat.exists_eq_add_of_le' q
      rw [val_none] at hv; cases hv
    refine via fun R_ k_ => ?_
    obtain ⟨n, hn, h2⟩ := onS_i (List.all_eq_true.mp FK.vals k (List.mem_range.mpr hk))
    obtain ⟨v', hv', h3⟩ := onS_i h2
    refine k_ ?_
    rw [hv] at hv'; cases hv'
    obtain ⟨u, h4, h5⟩ := valB_i (B := theBase prog w h K mb) X h3 rfl hb
    exact ⟨_, u, hn, h4, h5⟩
theorem src_ok : SrcOk (theBase prog w h K mb) where
  rng := ⟨Option.isNone_iff_eq_none.mp FK.rng, (hb _ (bi_name .range)).trans (boot_bi .range)⟩
  zip := ⟨Option.isNone_iff_eq_none.mp FK.zip, (hb _ (bi_name .zip)).trans (boot_bi .zip)⟩
theorem cls_ok : ClassesOk (theBase prog w h K mb) := fun c hc => by
  cases c with
  | fail => exact absurd rfl hc
  | limits => exact clsB_i (B := theBase prog w h K mb) X FK.cl1 (fun j hj => by cases hj; rfl) (fun i j hj => nomatch hj) meth_obj
  | pcode => exact clsB_i (B := theBase prog w h K mb) X FK.cl2 (fun j hj => by cases hj; rfl) (fun i j hj => mth_mem (c := .pcode) hj) meth_obj
  | search => exact clsB_i (B := theBase prog w h K mb) X FK.cl3 (fun j hj => by cases hj; rfl) (fun i j hj => mth_mem (c := .search) hj) meth_obj
theorem fns_ok : FnsOk (theBase prog w h K mb) fnT where
  all := fun k f hf => by
    have hlt : k < 40 := Nat.lt_of_not_le fun q => by
      obtain ⟨n, rfl⟩ := Nat.exists_eq_add_of_le' q
      rw [fn_none] at hf; cases hf
    by_cases h8 : k = 8
    · subst h8
      cases hf
      refine via fun R_ k_ => ?_
      obtain ⟨fd, e, hc⟩ := onS_i FK.limC
      obtain ⟨C, b, hb', hm⟩ := coreB_i (B := theBase prog w h K mb) X e hc
      obtain ⟨t1, t2, t3, t4, hbd⟩ := lim_bind FK.lim e
      refine k_ ?_
      exact ⟨fd, _, b, C, hb', hm, fun s G H vs I hl => (hbd s fun a o e => I.sub _ _ (I.old _ _ (X _ _ e) (fun m => nomatch m))).1 vs hl⟩
    · have := List.all_eq_true.mp FK.fns k (List.mem_range.mpr (by omega))
      rcases (Bool.or_eq_true _ _).mp this with q | q
      · exact absurd (beq_iff_eq.mp q) h8
      · obtain ⟨f', hf', q⟩ := onS_i q
        rw [hf] at hf'; cases hf'
        exact fnB_i (B := theBase prog w h K mb) X q
  nofail := rfl
  lim := fun k f hk hf o fd ho hd => by
    cases hk
    cases hf
    refine via fun R_ k_ => ?_
    obtain ⟨fd', e, hc⟩ := onS_i FK.limC
    obtain ⟨o', ho', hd'⟩ := Option.bind_eq_some_iff.mp e
    refine k_ ?_
    have e1 := X _ _ ho'
    have ho : h.get? 130 = some o := ho
    rw [e1] at ho; cases ho
    have hd' := fdOf_i hd'
    rw [hd] at hd'; cases hd'
    refine via fun R_ k_ => ?_
    obtain ⟨t1, t2, t3, t4, hbd⟩ := lim_bind FK.lim e
    refine k_ ?_
    refine ⟨t1, t2, t3, t4, fun s G H x I => ?_⟩
    have := hbd s fun a o e => I.sub _ _ (I.old _ _ (X _ _ e) (fun m => nomatch m))
    exact ⟨this.2.1 x, fun u => this.2.2 x u⟩
omit FK X nb hb nl in
theorem row_rep {B : Base} {G : St} : ∀ {vs : List Value} {xs : List Int}, IntsAre vs xs → RepL B G (xs.map AV.int) vs
  | _, _, .nil => rfl
  | _, _, .cons n t r => ⟨_, _, rfl, ⟨t, rfl⟩, row_rep r⟩
theorem run_law {xs : List Int} {vs : List Value} {a : Addr} (hL : h.IsList a vs.toArray) (hI : IntsAre vs xs) {W n : Nat} {H' : AH} (e : acall GlT fnT isoL W n (.fn 39) [.row (xs.map .int)] [] = some (.bool true, H')) (hn : n ≤ 600)
    {s : Shared} (hs : s.heap = h) {Q : Value → Shared → Prop} {E : Value → Shared → Prop} (hQ : ∀ h' tk, (∀ b o, h.get? b = some o → h'.get? b = some o) → Q (.bool true) { s with heap := h', toks := tk }) :
    wpAny (model prog w) callerA (call (.ref 381) [.ref a]) Q E s := by
  subst hs
  have R : Room callerA n := ⟨by show 1 + claimMargin + n < recursionLimit; have : claimMargin + 1 + 600 < recursionLimit := by decide
                                 omega, by show 4 + 8 * n + 8 < cLine; have : 4 + 8 * 600 + 8 < cLine := by decide
                                           omega, rfl⟩
  have C := acall_ok (base_ok FK X nb hb nl) (cls_ok FK X nb hb nl) (src_ok FK X nb hb nl) (fns_ok (prog := prog) (w := w) FK X nb hb nl) isoL W n callerA R
  refine via fun R_ k_ => ?_
  obtain ⟨o, ho, hc, k, hd⟩ := hL
  refine k_ ?_
  let G : St := ⟨s.heap.get?, []⟩
  have I : Inv (theBase prog w s.heap K mb) G [] s.heap := ⟨fun q_ q_ e => e, fun q_ q_ e q_ => e, rfl, List.Pairwise.nil, (fun q_ m => nomatch m), (fun q_ q_ q_ e => nomatch e)⟩
  have rs : RepL (theBase prog w s.heap K mb) G [.row (xs.map .int)] [.ref a] := ⟨_, _, rfl, ⟨a, vs.toArray, k, rfl, ⟨o, ho, hc, hd⟩, row_rep hI⟩, rfl⟩
  obtain ⟨_, y⟩ := C.pos s G [] H' (.fn 39) (.bool true) _ (.ref 381) [.ref a] (.inl ⟨39, rfl⟩) I rfl rs e
  refine y Q E fun v G' h' tk st I' r => ?_
  rw [show v = _ from r]
  exact hQ h' tk fun b o e => I'.sub _ _ (st.mono _ _ e)
end
theorem ns_same {h : Heap} {a : Addr} {m m' : Str → Option Value} (x : h.Ns a m) (y : h.Ns a m') (n : Str) : m n = m' n := by
  refine via fun R_ k_ => ?_
  obtain ⟨o, es, ep, h1, h2, _, h3⟩ := x
  obtain ⟨o', es', ep', g1, g2, _, g3⟩ := y
  refine k_ ?_
  rw [h1] at g1; cases g1
  rw [h2] at g2; cases g2
  rw [← h3, ← g3]
theorem fa_eq {K : Frag} (FK : FragOk K) {h : Heap} (X : K.In h) {mg : Str → Option Value} (hg : h.Ns mainGlobals mg) {n : Str} (hn : n = toS [108, 97, 119]) {fa : Addr} (e : mg n = some (.ref fa)) : fa = 381 := by
  have := ns_same hg (nsB_i X FK.ns) n
  rw [e, hn, FK.law] at this
  cases this; rfl
end
section
set_option Elab.async false
set_option autoImplicit false
set_option linter.unusedVariables false
set_option maxRecDepth 100000
set_option backward.match.sparseCases false
set_option tactic.hygienic false
set_option genSizeOf false
set_option genInjectivity false
open PySem
noncomputable abbrev ac (n : Nat) : Orc := acall GlT fnT isoL 1000 n
noncomputable def DealOk (d : AObj) : Prop := ∃ (nums : List Int) (i s : Int), d = .list [.lst (nums.map .int), .int i, .int s] ∧ nums.length ≤ 40 ∧ 0 ≤ i
section
variable {G : Glo} {call : Orc} {F : AF} {H H1 H2 : AH}
theorem evs_nil : evs G call F [] H = some ([], H) := rfl
theorem evs_cons {e : XE} {r : List XE} {x : AV} {xs : List AV} (h1 : e.ev G call F H = some (x, H1)) (h2 : evs G call F r H1 = some (xs, H2)) : evs G call F (e :: r) H = some (x :: xs, H2) := by
  show abind (e.ev G call F) (fun x => abind (evs G call F r) fun xs => apure (x :: xs)) H = _
  rw [abind_eq h1, abind_eq h2]; rfl
theorem ev_sub_ {a i : XE} {x y z : AV} (h1 : a.ev G call F H = some (x, H1)) (h2 : i.ev G call F H1 = some (y, H2)) (h3 : asub H2 x y = some z) : (n_sub a i).ev G call F H = some (z, H2) := by
  show abind (a.ev G call F) (fun x => abind (i.ev G call F) fun y => aread fun H => asub H x y) H = _
  rw [abind_eq h1, abind_eq h2]
  show (asub H2 x y).map _ = _
  rw [h3]; rfl
theorem ev_bin_ {o : Op2} {a i : XE} {x y z : AV} (h1 : a.ev G call F H = some (x, H1)) (h2 : i.ev G call F H1 = some (y, H2)) (h3 : abin o x y = some z) : (n_bin o a i).ev G call F H = some (z, H2) := by
  show abind (a.ev G call F) (fun x => abind (i.ev G call F) fun y => aopt (abin o x y)) H = _
  rw [abind_eq h1, abind_eq h2, h3]; rfl
theorem ev_cmp_ {o : OpC} {a i : XE} {x y : AV} {b : Bool} (h1 : a.ev G call F H = some (x, H1)) (h2 : i.ev G call F H1 = some (y, H2)) (h3 : acmp o x y = some b) : (n_cmp o a i).ev G call F H = some (.bool b, H2) := by
  show abind (a.ev G call F) (fun x => abind (i.ev G call F) fun y => aopt ((acmp o x y).map AV.bool)) H = _
  rw [abind_eq h1, abind_eq h2, h3]; rfl
theorem ev_call_ {f : XE} {k : Nat} {args : List XE} {xs : List AV} {z : AV} (h1 : f.ev G call F H = some (.fn k, H)) (h2 : evs G call F args H = some (xs, H1)) (h3 : call (.fn k) xs H1 = some (z, H2)) : (n_call f args).ev G call F H = some (z, H2) := by
  show abind (f.ev G call F) (fun x => abind (evs G call F args) fun xs => acallB call x xs) H = _
  rw [abind_eq h1, abind_eq h2]; exact h3
theorem ev_bi_ {f : XE} {b : Bi} {args : List XE} {xs : List AV} {z : AV} (h1 : f.ev G call F H = some (.bi b, H)) (h2 : evs G call F args H = some (xs, H1)) (h3 : abi H1 b xs = some z) : (n_call f args).ev G call F H = some (z, H1) := by
  show abind (f.ev G call F) (fun x => abind (evs G call F args) fun xs => acallB call x xs) H = _
  rw [abind_eq h1, abind_eq h2]
  show (abi H1 b xs).map _ = _
  rw [h3]; rfl
theorem ex_assign_ {W : Nat} {i : Nat} {e : XE} {v : AV} (h1 : e.ev G call F H = some (v, H1)) (h2 : i < F.length) : (s_assign (t_var i false) e).ex G call W F H = some ((.next, F.set i (some v)), H1) := by
  show abind (e.ev G call F) (fun v => abind ((t_var i false).st G call v F) fun F' => apure (Flo.next, F')) H = _
  have q : (t_var i false).st G call v F H1 = some (F.set i (some v), H1) := by
    show abind (aopt (aif ((i < F.length && (!false || (nth F i).isNone)) = true) ())) (fun q_ => apure (setN F i (some v))) H1 = _
    rw [setN_eq]
    rw [opt_eq (x := ()) (aif_eq (by simp [h2]))]; rfl
  rw [abind_eq h1, abind_eq q]; rfl
theorem ex_swap_ {W : Nat} {is : List Nat} {es : List XE} {xs : List AV} (h1 : evs G call F es H = some (xs, H1)) (h2 : xs.length = is.length ∧ is.all (fun i => decide (i < F.length)) = true) : (s_swap is es).ex G call W F H = some ((.next, asets is xs F), H1) := by
  show abind (evs G call F es) (fun xs => abind (aopt (aif (xs.length = is.length ∧ is.all (fun i => decide (i < F.length)) = true) ())) fun q_ => apure (Flo.next, asets is xs F)) H = _
  rw [abind_eq h1, opt_eq (x := ()) (aif_eq h2)]; rfl
theorem ex_ret_ {W : Nat} {e : XE} {v : AV} (h1 : e.ev G call F H = some (v, H1)) : (s_ret e).ex G call W F H = some ((.ret v, F), H1) := by
  show abind (e.ev G call F) (fun v => apure (Flo.ret v, F)) H = _
  rw [abind_eq h1]; rfl
theorem ex_if_ {W : Nat} {c : XE} {a b : List XS} {t : Bool} (h1 : c.ev G call F H = some (.bool t, H1)) : (s_if c a b).ex G call W F H = exs G call W (if t then a else b) F H1 := by
  show abind (c.ev G call F) (fun v => abind (aopt (truthA v)) fun t => if t then exs G call W a F else exs G call W b F) H = _
  rw [abind_eq h1]
  cases t <;> rfl
theorem exs_next {W : Nat} {s : XS} {r : List XS} {F1 : AF} (h : s.ex G call W F H = some ((.next, F1), H1)) : exs G call W (s :: r) F H = exs G call W r F1 H1 := by
  show abind (s.ex G call W F) (fun p => athen (exs G call W r) p) H = _
  rw [abind_eq h]; rfl
theorem exs_ret {W : Nat} {s : XS} {r : List XS} {F1 : AF} {v : AV} (h : s.ex G call W F H = some ((.ret v, F1), H1)) : exs G call W (s :: r) F H = some ((.ret v, F1), H1) := by
  show abind (s.ex G call W F) (fun p => athen (exs G call W r) p) H = _
  rw [abind_eq h]; rfl
theorem exs_append {W : Nat} {F1 : AF} : ∀ {ss r : List XS} {F : AF} {H : AH}, exs G call W ss F H = some ((.next, F1), H1) → exs G call W (ss ++ r) F H = exs G call W r F1 H1
  | [], r, F, H, h => by cases h; rfl
  | s :: ss, r, F, H, h => by
    refine via fun R_ k_ => ?_
    obtain ⟨⟨fl, F2⟩, H2, e1, e2⟩ := abind_some (show abind (s.ex G call W F) (fun p => athen (exs G call W ss) p) H = _ from h)
    refine k_ ?_
    cases fl with
    | next => exact (exs_next e1).trans (exs_append (r := r) e2)
    | ret v => cases (show apure (Flo.ret v, F2) H2 = some ((Flo.next, F1), H1) from e2)
end
theorem at_ints {nums : List Int} {i : Int} (h0 : 0 ≤ i) (h1 : i < (nums.length : Int)) (h2 : nums.length ≤ 40) : ∃ a, at? (nums.map AV.int) i = some (.int a) := by
  obtain ⟨k, rfl⟩ := Int.eq_ofNat_of_zero_le h0
  have hk : k < nums.length := by omega
  refine ⟨nums[k], ?_⟩
  unfold at?
  rw [if_pos h0, if_pos (by omega)]
  simp [hk]
theorem take_ok {d : AObj} (D : DealOk d) (n : Nat) {m : Nat} (hm : 0 < m) : ∃ r d', r < m ∧ DealOk d' ∧ ac (n + 1) (.fn 30) [.obj 0, .int m] [d] = some (.int (r : Nat), [d']) := by
  obtain ⟨nums, i, s, rfl, hl, hi⟩ := D
  have hmz : (0 : Int) < (m : Int) := by omega
  have c1 : (n_sub (n_var 0) (n_int 1)).ev GlT (ac n) [some (.obj 0), some (.int m)] [.list [.lst (nums.map .int), .int i, .int s]] = some (.int i, [.list [.lst (nums.map .int), .int i, .int s]]) := rfl
  have c2 : (n_call (n_gl 39) [n_sub (n_var 0) (n_int 0)]).ev GlT (ac n) [some (.obj 0), some (.int m)] [.list [.lst (nums.map .int), .int i, .int s]] = some (.int nums.length, [.list [.lst (nums.map .int), .int i, .int s]]) := by
    refine ev_bi_ (b := .len) rfl (evs_cons (x := .lst (nums.map .int)) rfl evs_nil) ?_
    show (aif ((nums.map AV.int).length ≤ line) (AV.int (nums.map AV.int).length)) = _
    rw [List.length_map]
    exact aif_eq (Nat.le_trans hl (by decide))
  have c3 := ev_cmp_ (o := .lt) c1 c2 (b := decide (i < (nums.length : Int))) rfl
  have fin : ∀ (v : Int) (d' : AObj), DealOk d' → exs GlT (ac n) 1000 f_law_take.body [some (.obj 0), some (.int m)] [.list [.lst (nums.map .int), .int i, .int s]] = some ((.ret (.int (v % (m : Int))), [some (.obj 0), some (.int m)]), [d']) →
      ∃ r d', r < m ∧ DealOk d' ∧ ac (n + 1) (.fn 30) [.obj 0, .int m] [.list [.lst (nums.map .int), .int i, .int s]] = some (.int (r : Nat), [d']) := fun v d' hd e => by
    have h1 := Int.emod_nonneg v (Int.ne_of_gt hmz)
    have h2 := Int.emod_lt_of_pos v hmz
    refine ⟨(v % (m : Int)).toNat, d', by omega, hd, ?_⟩
    show abind (aopt (fnT 30)) (fun ir => apart (isoL 30 && [AV.obj 0, .int m].all (noRef 8)) (arun GlT 1000 (ac n) ir [.obj 0, .int m])) _ = _
    rw [opt_eq (o := fnT 30) (x := f_law_take) rfl]
    show abind (aopt (frameOf 2 2 [.obj 0, .int m] [])) (fun F => abind (exs GlT (ac n) 1000 f_law_take.body F) fun p => apure p.1.val) _ = _
    rw [opt_eq (o := frameOf 2 2 [.obj 0, .int m] []) (x := [some (.obj 0), some (.int m)]) rfl, abind_eq e]
    show some (AV.int (v % (m : Int)), [d']) = _
    rw [Int.toNat_of_nonneg h1]
  have md : ∀ (x : Int), abin .mod (.int x) (.int m) = some (.int (x % (m : Int))) := fun x => by
    show (aif (0 < (m : Int)) (x % (m : Int))).map AV.int = _
    rw [aif_eq hmz]; rfl
  by_cases h : i < (nums.length : Int)
  · obtain ⟨a, ha⟩ := at_ints hi h hl
    refine fin a (.list [.lst (nums.map .int), .int (i + 1), .int s]) ⟨nums, i + 1, s, rfl, hl, by omega⟩ ?_
    have q : (s_if (n_cmp OpC.lt (n_sub (n_var 0) (n_int 1)) (n_call (n_gl 39) [(n_sub (n_var 0) (n_int 0))])) [(s_assign (t_sub (n_var 0) (n_int 1)) (n_bin Op2.add (n_sub (n_var 0) (n_int 1)) (n_int 1))),
        (s_ret (n_bin Op2.mod (n_sub (n_sub (n_var 0) (n_int 0)) (n_bin Op2.sub (n_sub (n_var 0) (n_int 1)) (n_int 1))) (n_var 1)))] []).ex GlT (ac n) 1000 [some (.obj 0), some (.int m)] [.list [.lst (nums.map .int), .int i, .int s]] =
        some ((.ret (.int (a % (m : Int))), [some (.obj 0), some (.int m)]), [.list [.lst (nums.map .int), .int (i + 1), .int s]]) := by
      rw [ex_if_ c3, decide_eq_true h, if_pos rfl]
      refine (exs_next (F1 := [some (.obj 0), some (.int m)]) (H1 := [.list [.lst (nums.map .int), .int (i + 1), .int s]]) rfl).trans (exs_ret (ex_ret_ (ev_bin_ (x := .int a) (ev_sub_ (x := .lst (nums.map .int)) (y := .int (i + 1 - 1)) rfl rfl ?_) rfl (md a))))
      show at? (nums.map AV.int) (i + 1 - 1) = _
      rw [Int.add_sub_cancel]; exact ha
    exact exs_ret q
  · refine fin ((s * 16807 + 101) % 2147483647 / 64) (.list [.lst (nums.map .int), .int i, .int ((s * 16807 + 101) % 2147483647)]) ⟨nums, i, _, rfl, hl, hi⟩ ?_
    refine (exs_next (F1 := [some (.obj 0), some (.int m)]) (H1 := [.list [.lst (nums.map .int), .int i, .int s]]) ?_).trans ((exs_next (F1 := [some (.obj 0), some (.int m)]) (H1 := [.list [.lst (nums.map .int), .int i, .int ((s * 16807 + 101) % 2147483647)]]) rfl).trans (exs_ret (ex_ret_ (ev_bin_ (x := .int ((s * 16807 + 101) % 2147483647 / 64)) rfl rfl (md _)))))
    rw [ex_if_ c3, decide_eq_false h]; rfl
end
section
set_option Elab.async false
set_option autoImplicit false
set_option linter.unusedVariables false
set_option maxRecDepth 100000
set_option backward.match.sparseCases false
set_option tactic.hygienic false
set_option genSizeOf false
set_option genInjectivity false
open PySem
theorem draw {F : AF} {d : AObj} (D : DealOk d) (n : Nat) {m : Nat} {mi : Int} (hi : mi = (m : Int)) (hm : 0 < m) : ∃ r d', r < m ∧ DealOk d' ∧ (n_call (n_gl 53) [n_var 0, n_int mi]).ev GlT (ac (n + 1)) (some (.obj 0) :: F) [d] = some (.int (r : Nat), [d']) := by
  obtain ⟨r, d', h1, h2, h3⟩ := take_ok D n hm
  subst hi
  exact ⟨r, d', h1, h2, ev_call_ (k := 30) rfl (evs_cons (x := .obj 0) (H1 := [d]) rfl (evs_cons (x := .int m) (H1 := [d]) rfl evs_nil)) h3⟩
noncomputable abbrev pairs (m n : Nat) : List (Nat × Nat) := (List.range m).flatMap fun a => (List.range n).map fun b => (a, b)
theorem mem_pairs {m n a b : Nat} (h1 : a < m) (h2 : b < n) : (a, b) ∈ pairs m n :=
  List.mem_flatMap.mpr ⟨a, List.mem_range.mpr h1, List.mem_map.mpr ⟨b, List.mem_range.mpr h2, rfl⟩⟩
noncomputable def mp {α β : Type} (g : α → β) : List α → List β
  | [] => []
  | a :: r => g a :: mp g r
theorem mp_eq {α β : Type} (g : α → β) : ∀ l : List α, mp g l = l.map g
  | [] => rfl
  | a :: r => by show g a :: mp g r = _; rw [mp_eq g r]; rfl
theorem at_map {α β : Type} {f g : α → β} {l : List α} (h : l.map f = mp g l) {a : α} (m : a ∈ l) : f a = g a := List.map_inj_left.mp (h.trans (mp_eq g l)) a m
theorem pick_ok {α : Type} {f : Nat → α} {g : Nat → α} {n r : Nat} (h : (List.range n).map f = mp g (List.range n)) (hr : r < n) : f r = g r := at_map h (List.mem_range.mpr hr)
theorem run_body {n k : Nat} {f : IFn} {F F' : AF} {H H' : AH} {args : List AV} {v : AV} (hf : fnT k = some f) (hi : isoL k = false) (hF : frameOf f.names.length f.np args [] = some F) (e : exs GlT (ac n) 1000 f.body F H = some ((.ret v, F'), H')) : ac (n + 1) (.fn k) args H = some (v, H') := by
  show abind (aopt (fnT k)) (fun ir => apart (isoL k && args.all (noRef 8)) (arun GlT 1000 (ac n) ir args)) _ = _
  rw [opt_eq hf, hi]
  show abind (aopt (frameOf f.names.length f.np args [])) (fun F => abind (exs GlT (ac n) 1000 f.body F) fun p => apure p.1.val) _ = _
  rw [opt_eq hF, abind_eq e]; rfl
noncomputable abbrev seg (f : IFn) (k l : Nat) : List XS := (f.body.drop k).take l
noncomputable def sgL : List Int := [97, 65, 98, 196, 228, 48, 133, 10, 13, 8232, 8233]
noncomputable def sg (r : Nat) : Int := sgL.getD r 0
noncomputable def fl (r : Nat) : List Nat := [[], [105], [109]].getD r []
noncomputable def fold (i : Int) : Int := if i = 97 then 65 else if i = 98 then 66 else if i = 228 then 196 else i
noncomputable def sameS (a b c : Nat) : Bool := decide (sg a = sg b) || (c == 1 && decide (fold (sg a) = fold (sg b)))
noncomputable def inS (b c : Nat) : Bool := [97, 98, 228].any (fun i => decide (sg b = i)) || (c == 1 && [65, 196].any fun i => decide (sg b = i))
noncomputable def FS (a b c : Nat) (x y z u : Option AV) : AF := [some (.obj 0), some (.lst (sgL.map .int)), some (.int (sg a)), some (.int (sg b)), some (.str (fl c)), x, y, z, u]
section
variable (d : AObj) (x y z u : Option AV)
theorem sA0 : (pairs 11 2).map (fun p => exs GlT (ac 58) 1000 (seg f_law_signs_right 2 2) (FS 0 p.1 p.2 x y z u) [d]) = mp (fun p => some ((.next, FS 0 p.1 p.2 (some (.bool (sameS 0 p.1 p.2))) y z u), [d])) (pairs 11 2) := by kernel_rfl
theorem sA1 : (pairs 11 2).map (fun p => exs GlT (ac 58) 1000 (seg f_law_signs_right 2 2) (FS 1 p.1 p.2 x y z u) [d]) = mp (fun p => some ((.next, FS 1 p.1 p.2 (some (.bool (sameS 1 p.1 p.2))) y z u), [d])) (pairs 11 2) := by kernel_rfl
theorem sA2 : (pairs 11 2).map (fun p => exs GlT (ac 58) 1000 (seg f_law_signs_right 2 2) (FS 2 p.1 p.2 x y z u) [d]) = mp (fun p => some ((.next, FS 2 p.1 p.2 (some (.bool (sameS 2 p.1 p.2))) y z u), [d])) (pairs 11 2) := by kernel_rfl
theorem sA3 : (pairs 11 2).map (fun p => exs GlT (ac 58) 1000 (seg f_law_signs_right 2 2) (FS 3 p.1 p.2 x y z u) [d]) = mp (fun p => some ((.next, FS 3 p.1 p.2 (some (.bool (sameS 3 p.1 p.2))) y z u), [d])) (pairs 11 2) := by kernel_rfl
theorem sA4 : (pairs 11 2).map (fun p => exs GlT (ac 58) 1000 (seg f_law_signs_right 2 2) (FS 4 p.1 p.2 x y z u) [d]) = mp (fun p => some ((.next, FS 4 p.1 p.2 (some (.bool (sameS 4 p.1 p.2))) y z u), [d])) (pairs 11 2) := by kernel_rfl
theorem sA5 : (pairs 11 2).map (fun p => exs GlT (ac 58) 1000 (seg f_law_signs_right 2 2) (FS 5 p.1 p.2 x y z u) [d]) = mp (fun p => some ((.next, FS 5 p.1 p.2 (some (.bool (sameS 5 p.1 p.2))) y z u), [d])) (pairs 11 2) := by kernel_rfl
theorem sB (a : Nat) : (pairs 11 2).map (fun p => exs GlT (ac 58) 1000 (seg f_law_signs_right 4 2) (FS a p.1 p.2 x y z u) [d]) = mp (fun p => some ((.next, FS a p.1 p.2 x (some (.bool (inS p.1 p.2))) z u), [d])) (pairs 11 2) := by kernel_rfl
end
end
section
set_option Elab.async false
set_option autoImplicit false
set_option linter.unusedVariables false
set_option maxRecDepth 100000
set_option backward.match.sparseCases false
set_option tactic.hygienic false
set_option genSizeOf false
set_option genInjectivity false
open PySem
noncomputable def clsT (u : Nat) : AV := .tup [.str [99, 108, 97, 115, 115], .tup [.tup [.int 97, .int 99], .tup [.int 228, .int 228]], .bool (decide ((u : Int) = 1))]
section
variable (d : AObj) (x y z u : Option AV) (a : Nat)
theorem sC0 : (pairs 11 2).map (fun p => exs GlT (ac 58) 1000 (seg f_law_signs_right 7 3) (FS a p.1 p.2 x (some (.bool (inS p.1 p.2))) (some (.bool (decide (((0 : Nat) : Int) = 1)))) u) [d]) = mp (fun p => some ((.ret (.bool true), FS a p.1 p.2 x (some (.bool (inS p.1 p.2))) (some (.bool (decide (((0 : Nat) : Int) = 1)))) (some (clsT 0))), [d])) (pairs 11 2) := by kernel_rfl
theorem sC1 : (pairs 11 2).map (fun p => exs GlT (ac 58) 1000 (seg f_law_signs_right 7 3) (FS a p.1 p.2 x (some (.bool (inS p.1 p.2))) (some (.bool (decide (((1 : Nat) : Int) = 1)))) u) [d]) = mp (fun p => some ((.ret (.bool true), FS a p.1 p.2 x (some (.bool (inS p.1 p.2))) (some (.bool (decide (((1 : Nat) : Int) = 1)))) (some (clsT 1))), [d])) (pairs 11 2) := by kernel_rfl
end
theorem sg_at (H : AH) : (List.range 11).map (fun r : Nat => asub H (.lst (sgL.map .int)) (.int (r : Int))) = mp (fun r => some (.int (sg r))) (List.range 11) := by kernel_rfl
theorem fl2_at (H : AH) : (List.range 2).map (fun r : Nat => asub H (.lst [.str [], .str [105]]) (.int (r : Int))) = mp (fun r => some (.str (fl r))) (List.range 2) := by kernel_rfl
theorem signs_ok {d : AObj} (D : DealOk d) : ∃ d', DealOk d' ∧ ac 59 (.fn 33) [.obj 0] [d] = some (.bool true, [d']) := by
  refine via fun R_ k_ => ?_
  obtain ⟨r1, d1, h1, D1, t1⟩ := draw (F := [some (.lst (sgL.map .int)), none, none, none, none, none, none, none]) D 57 (m := 6) (mi := 6) rfl (by decide)
  obtain ⟨r2, d2, h2, D2, t2⟩ := draw (F := [some (.lst (sgL.map .int)), none, none, none, none, none, none, none]) D1 57 (m := 11) (mi := 11) rfl (by decide)
  obtain ⟨r3, d3, h3, D3, t3⟩ := draw (F := [some (.lst (sgL.map .int)), none, none, none, none, none, none, none]) D2 57 (m := 2) (mi := 2) rfl (by decide)
  obtain ⟨r4, d4, h4, D4, t4⟩ := draw (F := (FS r1 r2 r3 (some (.bool (sameS r1 r2 r3))) (some (.bool (inS r2 r3))) none none).tail) D3 57 (m := 2) (mi := 2) rfl (by decide)
  refine k_ ?_
  refine ⟨d4, D4, run_body (f := f_law_signs_right) (F := [some (.obj 0), none, none, none, none, none, none, none, none]) (F' := FS r1 r2 r3 (some (.bool (sameS r1 r2 r3))) (some (.bool (inS r2 r3))) (some (.bool (decide ((r4 : Int) = 1)))) (some (clsT r4))) (by kernel_rfl) (by kernel_rfl) (by kernel_rfl) ?_⟩
  have e1 : exs GlT (ac 58) 1000 (seg f_law_signs_right 0 1) [some (.obj 0), none, none, none, none, none, none, none, none] [d] = some ((.next, [some (.obj 0), some (.lst (sgL.map .int)), none, none, none, none, none, none, none]), [d]) := by kernel_rfl
  have e2 : exs GlT (ac 58) 1000 (seg f_law_signs_right 1 1) [some (.obj 0), some (.lst (sgL.map .int)), none, none, none, none, none, none, none] [d] = some ((.next, FS r1 r2 r3 none none none none), [d3]) :=
    exs_next (s := s_swap [2, 3, 4] [n_sub (n_var 1) (n_call (n_gl 53) [n_var 0, n_int 6]), n_sub (n_var 1) (n_call (n_gl 53) [n_var 0, n_int 11]), n_sub (n_lst false [n_str [], n_str [105]]) (n_call (n_gl 53) [n_var 0, n_int 2])]) (r := []) (ex_swap_ (is := [2, 3, 4]) (evs_cons (ev_sub_ (H1 := [d]) rfl t1 (pick_ok (sg_at _) (Nat.lt_trans h1 (by decide)))) (evs_cons (ev_sub_ (H1 := [d1]) rfl t2 (pick_ok (sg_at _) h2)) (evs_cons (ev_sub_ (H1 := [d2]) rfl t3 (pick_ok (fl2_at _) h3)) evs_nil))) ⟨rfl, rfl⟩)
  have e3 : exs GlT (ac 58) 1000 (seg f_law_signs_right 2 2) (FS r1 r2 r3 none none none none) [d3] = some ((.next, FS r1 r2 r3 (some (.bool (sameS r1 r2 r3))) none none none), [d3]) := by
    match r1, h1 with
    | 0, _ => have q := at_map (sA0 d3 none none none none) (mem_pairs h2 h3); exact q
    | 1, _ => have q := at_map (sA1 d3 none none none none) (mem_pairs h2 h3); exact q
    | 2, _ => have q := at_map (sA2 d3 none none none none) (mem_pairs h2 h3); exact q
    | 3, _ => have q := at_map (sA3 d3 none none none none) (mem_pairs h2 h3); exact q
    | 4, _ => have q := at_map (sA4 d3 none none none none) (mem_pairs h2 h3); exact q
    | 5, _ => have q := at_map (sA5 d3 none none none none) (mem_pairs h2 h3); exact q
  have e4 : exs GlT (ac 58) 1000 (seg f_law_signs_right 4 2) (FS r1 r2 r3 (some (.bool (sameS r1 r2 r3))) none none none) [d3] = some ((.next, FS r1 r2 r3 (some (.bool (sameS r1 r2 r3))) (some (.bool (inS r2 r3))) none none), [d3]) := by
    have q := at_map (sB d3 (some (.bool (sameS r1 r2 r3))) none none none r1) (mem_pairs h2 h3)
    exact q
  have e5 : exs GlT (ac 58) 1000 (seg f_law_signs_right 6 1) (FS r1 r2 r3 (some (.bool (sameS r1 r2 r3))) (some (.bool (inS r2 r3))) none none) [d3] = some ((.next, FS r1 r2 r3 (some (.bool (sameS r1 r2 r3))) (some (.bool (inS r2 r3))) (some (.bool (decide ((r4 : Int) = 1)))) none), [d4]) :=
    exs_next (s := s_assign (t_var 7 false) (n_cmp .eq (n_call (n_gl 53) [n_var 0, n_int 2]) (n_int 1))) (r := []) (ex_assign_ (i := 7) (ev_cmp_ (o := .eq) t4 (H2 := [d4]) (y := .int 1) rfl rfl) (show 7 < 9 by decide))
  have e6 : exs GlT (ac 58) 1000 (seg f_law_signs_right 7 3) (FS r1 r2 r3 (some (.bool (sameS r1 r2 r3))) (some (.bool (inS r2 r3))) (some (.bool (decide ((r4 : Int) = 1)))) none) [d4] = some ((.ret (.bool true), FS r1 r2 r3 (some (.bool (sameS r1 r2 r3))) (some (.bool (inS r2 r3))) (some (.bool (decide ((r4 : Int) = 1)))) (some (clsT r4))), [d4]) := by
    match r4, h4 with
    | 0, _ => have q := at_map (sC0 d4 (some (.bool (sameS r1 r2 r3))) none r1) (mem_pairs h2 h3); exact q
    | 1, _ => have q := at_map (sC1 d4 (some (.bool (sameS r1 r2 r3))) none r1) (mem_pairs h2 h3); exact q
  have hb : f_law_signs_right.body = seg f_law_signs_right 0 1 ++ (seg f_law_signs_right 1 1 ++ (seg f_law_signs_right 2 2 ++ (seg f_law_signs_right 4 2 ++ (seg f_law_signs_right 6 1 ++ seg f_law_signs_right 7 3)))) := by kernel_rfl
  rw [hb, exs_append e1, exs_append e2, exs_append e3, exs_append e4, exs_append e5, e6]
end
section
set_option Elab.async false
set_option autoImplicit false
set_option linter.unusedVariables false
set_option maxRecDepth 100000
set_option backward.match.sparseCases false
set_option tactic.hygienic false
set_option genSizeOf false
set_option genInjectivity false
open PySem
noncomputable abbrev endOf (o : Option ((Flo × AF) × AH)) : Option (Flo × AH) := o.map fun p => (p.1.1, p.2)
theorem endOf_i {o : Option ((Flo × AF) × AH)} {f : Flo} {H : AH} (h : endOf o = some (f, H)) : ∃ F, o = some ((f, F), H) := by
  cases o with
  | none => cases h
  | some p => cases h; exact ⟨p.1.2, rfl⟩
noncomputable def pI (r : Nat) : Int := [98, 10, 13, 8232, 8233].getD r 0
noncomputable def pN (r : Nat) : Nat := [98, 10, 13, 8232, 8233].getD r 0
noncomputable def atB (a b c : Nat) : Bool := b == 0 || (c == 2 && b == 2 && a != 0)
noncomputable def atE (a b c : Nat) : Bool := b == 3 || (c == 2 && b == 1 && a != 0)
noncomputable def FP (a b c : Nat) (x y z u v : Option AV) : AF := [some (.obj 0), some (.str [97, pN a, 98]), some (.int b), some (.str (fl c)), x, y, z, u, v]
section
variable (d : AObj) (x y z u v x1 x3 : Option AV)
theorem pA0 : (pairs 4 3).map (fun p => exs GlT (ac 58) 1000 (seg f_law_places_right 2 4) (FP 0 p.1 p.2 x y z u v) [d]) = mp (fun p => some ((.next, FP 0 p.1 p.2 (some (.bool (atB 0 p.1 p.2))) (some (.bool (atE 0 p.1 p.2))) z u v), [d])) (pairs 4 3) := by kernel_rfl
theorem pA1 : (pairs 4 3).map (fun p => exs GlT (ac 58) 1000 (seg f_law_places_right 2 4) (FP 1 p.1 p.2 x y z u v) [d]) = mp (fun p => some ((.next, FP 1 p.1 p.2 (some (.bool (atB 1 p.1 p.2))) (some (.bool (atE 1 p.1 p.2))) z u v), [d])) (pairs 4 3) := by kernel_rfl
theorem pA2 : (pairs 4 3).map (fun p => exs GlT (ac 58) 1000 (seg f_law_places_right 2 4) (FP 2 p.1 p.2 x y z u v) [d]) = mp (fun p => some ((.next, FP 2 p.1 p.2 (some (.bool (atB 2 p.1 p.2))) (some (.bool (atE 2 p.1 p.2))) z u v), [d])) (pairs 4 3) := by kernel_rfl
theorem pA3 : (pairs 4 3).map (fun p => exs GlT (ac 58) 1000 (seg f_law_places_right 2 4) (FP 3 p.1 p.2 x y z u v) [d]) = mp (fun p => some ((.next, FP 3 p.1 p.2 (some (.bool (atB 3 p.1 p.2))) (some (.bool (atE 3 p.1 p.2))) z u v), [d])) (pairs 4 3) := by kernel_rfl
theorem pA4 : (pairs 4 3).map (fun p => exs GlT (ac 58) 1000 (seg f_law_places_right 2 4) (FP 4 p.1 p.2 x y z u v) [d]) = mp (fun p => some ((.next, FP 4 p.1 p.2 (some (.bool (atB 4 p.1 p.2))) (some (.bool (atE 4 p.1 p.2))) z u v), [d])) (pairs 4 3) := by kernel_rfl
noncomputable def FP2 (a b : Nat) : AF := [some (.obj 0), x1, some (.int a), x3, x, y, some (.str [97, 95, 32, 57, 45, 90]), some (.bool (decide ((b : Int) = 1))), z]
theorem pB : (pairs 7 2).map (fun p => endOf (exs GlT (ac 58) 1000 (seg f_law_places_right 7 2) (FP2 x y z x1 x3 p.1 p.2) [d])) = mp (fun p => some (.ret (.bool true), [d])) (pairs 7 2) := by kernel_rfl
end
theorem pA (d : AObj) {r1 r2 r3 : Nat} (h1 : r1 < 5) (h2 : r2 < 4) (h3 : r3 < 3) : exs GlT (ac 58) 1000 (seg f_law_places_right 2 4) (FP r1 r2 r3 none none none none none) [d] = some ((.next, FP r1 r2 r3 (some (.bool (atB r1 r2 r3))) (some (.bool (atE r1 r2 r3))) none none none), [d]) := by
  match r1, h1 with
  | 0, _ => have q := at_map (pA0 d none none none none none) (mem_pairs h2 h3); exact q
  | 1, _ => have q := at_map (pA1 d none none none none none) (mem_pairs h2 h3); exact q
  | 2, _ => have q := at_map (pA2 d none none none none none) (mem_pairs h2 h3); exact q
  | 3, _ => have q := at_map (pA3 d none none none none none) (mem_pairs h2 h3); exact q
  | 4, _ => have q := at_map (pA4 d none none none none none) (mem_pairs h2 h3); exact q
theorem p_at (H : AH) : (List.range 5).map (fun r : Nat => asub H (.lst [.int 98, .int 10, .int 13, .int 8232, .int 8233]) (.int (r : Int))) = mp (fun r => some (.int (pI r))) (List.range 5) := by kernel_rfl
theorem p_chr (H : AH) : (List.range 5).map (fun r : Nat => abi H .chr [.int (pI r)]) = mp (fun r => some (.str [pN r])) (List.range 5) := by kernel_rfl
theorem fl3_at (H : AH) : (List.range 3).map (fun r : Nat => asub H (.lst [.str [], .str [105], .str [109]]) (.int (r : Int))) = mp (fun r => some (.str (fl r))) (List.range 3) := by kernel_rfl
theorem places_ok {d : AObj} (D : DealOk d) : ∃ d', DealOk d' ∧ ac 59 (.fn 34) [.obj 0] [d] = some (.bool true, [d']) := by
  refine via fun R_ k_ => ?_
  obtain ⟨r1, d1, h1, D1, t1⟩ := draw (F := [none, none, none, none, none, none, none, none]) D 57 (m := 5) (mi := 5) rfl (by decide)
  obtain ⟨r2, d2, h2, D2, t2⟩ := draw (F := [some (.str [97, pN r1, 98]), none, none, none, none, none, none, none]) D1 57 (m := 4) (mi := 4) rfl (by decide)
  obtain ⟨r3, d3, h3, D3, t3⟩ := draw (F := [some (.str [97, pN r1, 98]), none, none, none, none, none, none, none]) D2 57 (m := 3) (mi := 3) rfl (by decide)
  obtain ⟨r4, d4, h4, D4, t4⟩ := draw (F := (FP r1 r2 r3 (some (.bool (atB r1 r2 r3))) (some (.bool (atE r1 r2 r3))) none none none).tail) D3 57 (m := 7) (mi := 7) rfl (by decide)
  obtain ⟨r5, d5, h5, D5, t5⟩ := draw (F := (FP r1 r2 r3 (some (.bool (atB r1 r2 r3))) (some (.bool (atE r1 r2 r3))) none none none).tail) D4 57 (m := 2) (mi := 2) rfl (by decide)
  have q := at_map (pB d5 (some (.bool (atB r1 r2 r3))) (some (.bool (atE r1 r2 r3))) none (some (.str [97, pN r1, 98])) (some (.str (fl r3)))) (mem_pairs h4 h5)
  obtain ⟨F', e6⟩ := endOf_i q
  refine k_ ?_
  refine ⟨d5, D5, run_body (f := f_law_places_right) (F := [some (.obj 0), none, none, none, none, none, none, none, none]) (F' := F') (by kernel_rfl) (by kernel_rfl) (by kernel_rfl) ?_⟩
  have q1 : asub [d1] (.lst [.int 98, .int 10, .int 13, .int 8232, .int 8233]) (.int (r1 : Int)) = some (.int (pI r1)) := by have q := pick_ok (p_at [d1]) h1; exact q
  have q2 : abi [d1] .chr [.int (pI r1)] = some (.str [pN r1]) := by have q := pick_ok (p_chr [d1]) h1; exact q
  have g1 : (n_bin .add (n_lst false [n_int 98]) (n_gl 51)).ev GlT (ac 58) [some (.obj 0), none, none, none, none, none, none, none, none] [d] = some (.lst [.int 98, .int 10, .int 13, .int 8232, .int 8233], [d]) := by kernel_rfl
  have g2 : (n_gl 43).ev GlT (ac 58) [some (.obj 0), none, none, none, none, none, none, none, none] [d] = some (.bi .chr, [d]) := by kernel_rfl
  have g3 := ev_bi_ (call := ac 58) g2 (evs_cons (ev_sub_ g1 t1 q1) evs_nil) q2
  have g4 : abin .add (.str [97]) (.str [pN r1]) = some (.str [97, pN r1]) := by kernel_rfl
  have g5 : abin .add (.str [97, pN r1]) (.str [98]) = some (.str [97, pN r1, 98]) := by kernel_rfl
  have g6 := ev_bin_ (ev_bin_ (a := n_str [97]) (H1 := [d]) rfl g3 g4) (i := n_str [98]) (y := .str [98]) (H2 := [d1]) rfl g5
  have e1 : exs GlT (ac 58) 1000 (seg f_law_places_right 0 1) [some (.obj 0), none, none, none, none, none, none, none, none] [d] = some ((.next, [some (.obj 0), some (.str [97, pN r1, 98]), none, none, none, none, none, none, none]), [d1]) := by
    have q := exs_next (r := []) (ex_assign_ (W := 1000) (i := 1) g6 (show 1 < 9 by decide))
    exact q
  have e2 : exs GlT (ac 58) 1000 (seg f_law_places_right 1 1) [some (.obj 0), some (.str [97, pN r1, 98]), none, none, none, none, none, none, none] [d1] = some ((.next, FP r1 r2 r3 none none none none none), [d3]) :=
    exs_next (s := s_swap [2, 3] [n_call (n_gl 53) [n_var 0, n_int 4], n_sub (n_lst false [n_str [], n_str [105], n_str [109]]) (n_call (n_gl 53) [n_var 0, n_int 3])]) (r := []) (ex_swap_ (is := [2, 3]) (evs_cons t2 (evs_cons (ev_sub_ (H1 := [d2]) rfl t3 (pick_ok (fl3_at _) h3)) evs_nil)) ⟨rfl, rfl⟩)
  have e3 : exs GlT (ac 58) 1000 (seg f_law_places_right 2 4) (FP r1 r2 r3 none none none none none) [d3] = some ((.next, FP r1 r2 r3 (some (.bool (atB r1 r2 r3))) (some (.bool (atE r1 r2 r3))) none none none), [d3]) := pA d3 h1 h2 h3
  have e4 : exs GlT (ac 58) 1000 (seg f_law_places_right 6 1) (FP r1 r2 r3 (some (.bool (atB r1 r2 r3))) (some (.bool (atE r1 r2 r3))) none none none) [d3] = some ((.next, FP2 (some (.bool (atB r1 r2 r3))) (some (.bool (atE r1 r2 r3))) none (some (.str [97, pN r1, 98])) (some (.str (fl r3))) r4 r5), [d5]) :=
    exs_next (s := s_swap [6, 2, 7] [n_str [97, 95, 32, 57, 45, 90], n_call (n_gl 53) [n_var 0, n_int 7], n_cmp .eq (n_call (n_gl 53) [n_var 0, n_int 2]) (n_int 1)]) (r := [])
      (ex_swap_ (is := [6, 2, 7]) (evs_cons (H1 := [d3]) (x := .str [97, 95, 32, 57, 45, 90]) rfl (evs_cons t4 (evs_cons (ev_cmp_ (o := .eq) t5 (H2 := [d5]) (y := .int 1) rfl rfl) evs_nil))) ⟨rfl, rfl⟩)
  have hb : f_law_places_right.body = seg f_law_places_right 0 1 ++ (seg f_law_places_right 1 1 ++ (seg f_law_places_right 2 4 ++ (seg f_law_places_right 6 1 ++ seg f_law_places_right 7 2))) := by kernel_rfl
  rw [hb, exs_append e1, exs_append e2, exs_append e3, exs_append e4, e6]
end
section
set_option Elab.async false
set_option autoImplicit false
set_option linter.unusedVariables false
set_option maxRecDepth 100000
set_option backward.match.sparseCases false
set_option tactic.hygienic false
set_option genSizeOf false
set_option genInjectivity false
open PySem
noncomputable def heldV (b : Nat) : AV := .tup [.str [103, 114, 111, 117, 112], .int 1, .tup [.str [114, 101, 112, 101, 97, 116], .int (1 + (b : Int)), .int (1 + (b : Int)), .bool false, .tup [.str [99, 104, 97, 114], .int 97], .int 1, .int 1]]
noncomputable def dueV (a b : Nat) : AV := if 2 * (1 + b) ≤ a then .tup [.int (2 * (1 + (b : Int))), .lst [.tup [.int 0, .int (1 + (b : Int))]]] else .none
noncomputable def dueG (c : Nat) : AV := if c = 1 then .tup [.int 2, .lst [.tup [.int 0, .int 1]]] else .none
noncomputable def FG (a b : Nat) (x y z : Option AV) : AF := [some (.obj 0), some (.int a), some (.int (1 + (b : Int))), x, y, z]
noncomputable def aAs (r : Nat) : List Nat := [[97, 65], [65, 97]].getD r []
noncomputable abbrev treeG : AV := .tup [.str [115, 101, 113], .tup [.tup [.str [103, 114, 111, 117, 112], .int 1, .tup [.str [97, 110, 121]]], .tup [.str [98, 97, 99, 107], .int 1]]]
section
variable (d : AObj) (x y z : Option AV)
theorem gA0 : (pairs 4 3).map (fun p => exs GlT (ac 58) 1000 (seg f_law_groups_right 1 4) (FG p.1 p.2 x y z) [d]) = mp (fun p => some ((.next, FG p.1 p.2 (some (heldV p.2)) (some (dueV p.1 p.2)) z), [d])) (pairs 4 3) := by kernel_rfl
theorem gA1 : (pairs 3 3).map (fun p => exs GlT (ac 58) 1000 (seg f_law_groups_right 1 4) (FG (p.1 + 4) p.2 x y z) [d]) = mp (fun p => some ((.next, FG (p.1 + 4) p.2 (some (heldV p.2)) (some (dueV (p.1 + 4) p.2)) z), [d])) (pairs 3 3) := by kernel_rfl
theorem gB (a b : Nat) : (List.range 2).map (fun r => exs GlT (ac 58) 1000 (seg f_law_groups_right 6 1) (FG a b x y (some (.str (fl r)))) [d]) = mp (fun r => some ((.next, FG a b x (some (dueG r)) (some (.str (fl r)))), [d])) (List.range 2) := by kernel_rfl
theorem gC : (pairs 2 2).map (fun p => ac 58 (.fn 31) [treeG, .str (aAs p.1), .int 0, .str (fl p.2)] [d]) = mp (fun p => some (dueG p.2, [d])) (pairs 2 2) := by kernel_rfl
end
theorem gD : (List.range 2).map (fun r => acmp .eq (dueG r) (dueG r)) = mp (fun q_ => some true) (List.range 2) := by kernel_rfl
theorem aA_at (H : AH) : (List.range 2).map (fun r : Nat => asub H (.lst [.str [97, 65], .str [65, 97]]) (.int (r : Int))) = mp (fun r => some (.str (aAs r))) (List.range 2) := by kernel_rfl
theorem fl2_at' (H : AH) : (List.range 2).map (fun r : Nat => asub H (.lst [.str [], .str [105]]) (.int (r : Int))) = mp (fun r => some (.str (fl r))) (List.range 2) := by kernel_rfl
theorem gA (d : AObj) {r1 r2 : Nat} (h1 : r1 < 7) (h2 : r2 < 3) : exs GlT (ac 58) 1000 (seg f_law_groups_right 1 4) (FG r1 r2 none none none) [d] = some ((.next, FG r1 r2 (some (heldV r2)) (some (dueV r1 r2)) none), [d]) := by
  by_cases h : r1 < 4
  · have q := at_map (gA0 d none none none) (mem_pairs h h2); exact q
  · obtain ⟨k, rfl⟩ : ∃ k, r1 = k + 4 := ⟨r1 - 4, by omega⟩
    have q := at_map (gA1 d none none none) (mem_pairs (show k < 3 by omega) h2); exact q
theorem groups_ok {d : AObj} (D : DealOk d) : ∃ d', DealOk d' ∧ ac 59 (.fn 36) [.obj 0] [d] = some (.bool true, [d']) := by
  refine via fun R_ k_ => ?_
  obtain ⟨r1, d1, h1, D1, t1⟩ := draw (F := [none, none, none, none, none]) D 57 (m := 7) (mi := 7) rfl (by decide)
  obtain ⟨r2, d2, h2, D2, t2⟩ := draw (F := [none, none, none, none, none]) D1 57 (m := 3) (mi := 3) rfl (by decide)
  obtain ⟨r3, d3, h3, D3, t3⟩ := draw (F := (FG r1 r2 (some (heldV r2)) (some (dueV r1 r2)) none).tail) D2 57 (m := 2) (mi := 2) rfl (by decide)
  obtain ⟨r4, d4, h4, D4, t4⟩ := draw (F := (FG r1 r2 (some (heldV r2)) (some (dueG r3)) (some (.str (fl r3)))).tail) D3 57 (m := 2) (mi := 2) rfl (by decide)
  refine k_ ?_
  have q1 : asub [d3] (.lst [.str [], .str [105]]) (.int (r3 : Int)) = some (.str (fl r3)) := by have q := pick_ok (fl2_at' [d3]) h3; exact q
  have q2 : asub [d4] (.lst [.str [97, 65], .str [65, 97]]) (.int (r4 : Int)) = some (.str (aAs r4)) := by have q := pick_ok (aA_at [d4]) h4; exact q
  have q3 : ac 58 (.fn 31) [treeG, .str (aAs r4), .int 0, .str (fl r3)] [d4] = some (dueG r3, [d4]) := by have q := at_map (gC d4) (mem_pairs h4 h3); exact q
  have q4 : acmp .eq (dueG r3) (dueG r3) = some true := by have q := pick_ok gD h3; exact q
  refine ⟨d4, D4, run_body (f := f_law_groups_right) (F := [some (.obj 0), none, none, none, none, none]) (F' := FG r1 r2 (some (heldV r2)) (some (dueG r3)) (some (.str (fl r3)))) (by kernel_rfl) (by kernel_rfl) (by kernel_rfl) ?_⟩
  have e1 : exs GlT (ac 58) 1000 (seg f_law_groups_right 0 1) [some (.obj 0), none, none, none, none, none] [d] = some ((.next, FG r1 r2 none none none), [d2]) :=
    exs_next (s := s_swap [1, 2] [n_call (n_gl 53) [n_var 0, n_int 7], n_bin .add (n_int 1) (n_call (n_gl 53) [n_var 0, n_int 3])]) (r := []) (ex_swap_ (is := [1, 2]) (evs_cons t1 (evs_cons (ev_bin_ (H1 := [d1]) (x := .int 1) rfl t2 rfl) evs_nil)) ⟨rfl, rfl⟩)
  have e2 := gA d2 h1 h2
  have g1 : (n_lst false [n_str [], n_str [105]]).ev GlT (ac 58) (FG r1 r2 (some (heldV r2)) (some (dueV r1 r2)) none) [d2] = some (.lst [.str [], .str [105]], [d2]) := by kernel_rfl
  have e3 : exs GlT (ac 58) 1000 (seg f_law_groups_right 5 1) (FG r1 r2 (some (heldV r2)) (some (dueV r1 r2)) none) [d2] = some ((.next, FG r1 r2 (some (heldV r2)) (some (dueV r1 r2)) (some (.str (fl r3)))), [d3]) := by
    have q := exs_next (r := []) (ex_assign_ (W := 1000) (i := 5) (ev_sub_ g1 t3 q1) (show 5 < 6 by decide))
    exact q
  have e4 : exs GlT (ac 58) 1000 (seg f_law_groups_right 6 1) (FG r1 r2 (some (heldV r2)) (some (dueV r1 r2)) (some (.str (fl r3)))) [d3] = some ((.next, FG r1 r2 (some (heldV r2)) (some (dueG r3)) (some (.str (fl r3)))), [d3]) := by
    have q := pick_ok (gB d3 (some (heldV r2)) (some (dueV r1 r2)) r1 r2) h3; exact q
  have g2 : (n_tup [(n_str [115, 101, 113]), (n_tup [(n_tup [(n_str [103, 114, 111, 117, 112]), (n_int 1), (n_tup [(n_str [97, 110, 121])])]), (n_tup [(n_str [98, 97, 99, 107]), (n_int 1)])])]).ev GlT (ac 58) (FG r1 r2 (some (heldV r2)) (some (dueG r3)) (some (.str (fl r3)))) [d3] = some (treeG, [d3]) := by kernel_rfl
  have g3 : (n_lst false [(n_str [97, 65]), (n_str [65, 97])]).ev GlT (ac 58) (FG r1 r2 (some (heldV r2)) (some (dueG r3)) (some (.str (fl r3)))) [d3] = some (.lst [.str [97, 65], .str [65, 97]], [d3]) := by kernel_rfl
  have g4 : (n_gl 54).ev GlT (ac 58) (FG r1 r2 (some (heldV r2)) (some (dueG r3)) (some (.str (fl r3)))) [d3] = some (.fn 31, [d3]) := by kernel_rfl
  have g5 : evs GlT (ac 58) (FG r1 r2 (some (heldV r2)) (some (dueG r3)) (some (.str (fl r3)))) [n_int 0, n_var 5] [d4] = some ([.int 0, .str (fl r3)], [d4]) := by kernel_rfl
  have g6 : (n_var 4).ev GlT (ac 58) (FG r1 r2 (some (heldV r2)) (some (dueG r3)) (some (.str (fl r3)))) [d4] = some (dueG r3, [d4]) := by kernel_rfl
  have e5 : exs GlT (ac 58) 1000 (seg f_law_groups_right 7 1) (FG r1 r2 (some (heldV r2)) (some (dueG r3)) (some (.str (fl r3)))) [d3] = some ((.ret (.bool true), FG r1 r2 (some (heldV r2)) (some (dueG r3)) (some (.str (fl r3)))), [d4]) := by
    have q := exs_ret (r := []) (ex_ret_ (W := 1000) (ev_cmp_ (o := .eq) (ev_call_ (call := ac 58) g4 (evs_cons g2 (evs_cons (ev_sub_ g3 t4 q2) g5)) q3) g6 q4))
    exact q
  have hb : f_law_groups_right.body = seg f_law_groups_right 0 1 ++ (seg f_law_groups_right 1 4 ++ (seg f_law_groups_right 5 1 ++ (seg f_law_groups_right 6 1 ++ seg f_law_groups_right 7 1))) := by kernel_rfl
  rw [hb, exs_append e1, exs_append e2, exs_append e3, exs_append e4, e5]
noncomputable def txC (r : Nat) : List Nat := [[97, 98], [97], [98], []].getD r []
noncomputable abbrev aC : AV := .tup [.str [99, 104, 97, 114], .int 97]
noncomputable abbrev bC : AV := .tup [.str [99, 104, 97, 114], .int 98]
noncomputable abbrev eC : AV := .tup [.str [97, 108, 116], .tup [.tup [.str [115, 101, 113], .tup [aC]], .tup [.str [115, 101, 113], .tup [aC, bC]], .tup [.str [115, 101, 113], .tup []]]]
noncomputable def FC (r : Nat) (x : Option AV) : AF := [some (.obj 0), some aC, some bC, some eC, some (.str (txC r)), x, none, none]
section
variable (d : AObj)
theorem cA : (List.range 4).map (fun r => exs GlT (ac 58) 1000 (seg f_law_choices_right 3 2) (FC r none) [d]) = mp (fun r => some ((.next, FC r none), [d])) (List.range 4) := by kernel_rfl
theorem cB : (pairs 4 2).map (fun p => endOf (exs GlT (ac 58) 1000 (seg f_law_choices_right 6 5) (FC p.1 (some (.bool (decide ((p.2 : Int) = 1))))) [d])) = mp (fun p => some (.ret (.bool true), [d])) (pairs 4 2) := by kernel_rfl
end
theorem tx_at (H : AH) : (List.range 4).map (fun r : Nat => asub H (.lst [.str [97, 98], .str [97], .str [98], .str []]) (.int (r : Int))) = mp (fun r => some (.str (txC r))) (List.range 4) := by kernel_rfl
theorem choices_ok {d : AObj} (D : DealOk d) : ∃ d', DealOk d' ∧ ac 59 (.fn 37) [.obj 0] [d] = some (.bool true, [d']) := by
  refine via fun R_ k_ => ?_
  obtain ⟨r1, d1, h1, D1, t1⟩ := draw (F := [some aC, some bC, some eC, none, none, none, none]) D 57 (m := 4) (mi := 4) rfl (by decide)
  obtain ⟨r2, d2, h2, D2, t2⟩ := draw (F := (FC r1 none).tail) D1 57 (m := 2) (mi := 2) rfl (by decide)
  refine k_ ?_
  have q1 : asub [d1] (.lst [.str [97, 98], .str [97], .str [98], .str []]) (.int (r1 : Int)) = some (.str (txC r1)) := by have q := pick_ok (tx_at [d1]) h1; exact q
  have q := at_map (cB d2) (mem_pairs h1 h2)
  obtain ⟨F', e5⟩ := endOf_i q
  refine ⟨d2, D2, run_body (f := f_law_choices_right) (F := [some (.obj 0), none, none, none, none, none, none, none]) (F' := F') (by kernel_rfl) (by kernel_rfl) (by kernel_rfl) ?_⟩
  have e1 : exs GlT (ac 58) 1000 (seg f_law_choices_right 0 2) [some (.obj 0), none, none, none, none, none, none, none] [d] = some ((.next, [some (.obj 0), some aC, some bC, some eC, none, none, none, none]), [d]) := by kernel_rfl
  have g1 : (n_lst false [(n_str [97, 98]), (n_str [97]), (n_str [98]), (n_str [])]).ev GlT (ac 58) [some (.obj 0), some aC, some bC, some eC, none, none, none, none] [d] = some (.lst [.str [97, 98], .str [97], .str [98], .str []], [d]) := by kernel_rfl
  have e2 : exs GlT (ac 58) 1000 (seg f_law_choices_right 2 1) [some (.obj 0), some aC, some bC, some eC, none, none, none, none] [d] = some ((.next, FC r1 none), [d1]) := by
    have q := exs_next (r := []) (ex_assign_ (W := 1000) (i := 4) (ev_sub_ g1 t1 q1) (show 4 < 8 by decide))
    exact q
  have e3 : exs GlT (ac 58) 1000 (seg f_law_choices_right 3 2) (FC r1 none) [d1] = some ((.next, FC r1 none), [d1]) := by have q := pick_ok (cA d1) h1; exact q
  have e4 : exs GlT (ac 58) 1000 (seg f_law_choices_right 5 1) (FC r1 none) [d1] = some ((.next, FC r1 (some (.bool (decide ((r2 : Int) = 1))))), [d2]) := by
    have q := exs_next (r := []) (ex_assign_ (W := 1000) (i := 5) (ev_cmp_ (o := .eq) t2 (i := n_int 1) (H2 := [d2]) (y := .int 1) (b := decide ((r2 : Int) = 1)) rfl rfl) (show 5 < 8 by decide))
    exact q
  have hb : f_law_choices_right.body = seg f_law_choices_right 0 2 ++ (seg f_law_choices_right 2 1 ++ (seg f_law_choices_right 3 2 ++ (seg f_law_choices_right 5 1 ++ seg f_law_choices_right 6 5))) := by kernel_rfl
  rw [hb, exs_append e1, exs_append e2, exs_append e3, exs_append e4, e5]
end
section
set_option Elab.async false
set_option autoImplicit false
set_option linter.unusedVariables false
set_option maxRecDepth 100000
set_option backward.match.sparseCases false
set_option tactic.hygienic false
set_option genSizeOf false
set_option genInjectivity false
open PySem
noncomputable abbrev endOf2 (o : Option ((Flo × AF) × AH)) : Option (Flo × AH) := o.map fun p => (p.1.1, p.2)
theorem endOf2_i {o : Option ((Flo × AF) × AH)} {f : Flo} {H : AH} (h : endOf2 o = some (f, H)) : ∃ F, o = some ((f, F), H) := by
  cases o with
  | none => cases h
  | some p => cases h; exact ⟨p.1.2, rfl⟩
noncomputable def mostV (a r : Nat) : AV := [.none, .int a, .int ((a : Int) + 1), .int ((a : Int) + 2)].getD r .none
noncomputable def FB (m a : Nat) (l : Bool) (v : AV) : AF := [some (.obj 0), some (.int m), some (.int a), some (.bool l), some v, none, none, none, none]
section
variable (d : AObj)
theorem bA0_0 : (pairs 4 4).map (fun p => endOf2 (exs GlT (ac 58) 1000 (seg f_law_bounds_right 2 6) (FB 0 p.1 (decide (((0 : Nat) : Int) = 1)) (mostV p.1 p.2)) [d])) = mp (fun q_ => some (.ret (.bool true), [d])) (pairs 4 4) := by kernel_rfl
theorem bA0_1 : (pairs 4 4).map (fun p => endOf2 (exs GlT (ac 58) 1000 (seg f_law_bounds_right 2 6) (FB 0 p.1 (decide (((1 : Nat) : Int) = 1)) (mostV p.1 p.2)) [d])) = mp (fun q_ => some (.ret (.bool true), [d])) (pairs 4 4) := by kernel_rfl
theorem bA1_0 : (pairs 4 4).map (fun p => endOf2 (exs GlT (ac 58) 1000 (seg f_law_bounds_right 2 6) (FB 1 p.1 (decide (((0 : Nat) : Int) = 1)) (mostV p.1 p.2)) [d])) = mp (fun q_ => some (.ret (.bool true), [d])) (pairs 4 4) := by kernel_rfl
theorem bA1_1 : (pairs 4 4).map (fun p => endOf2 (exs GlT (ac 58) 1000 (seg f_law_bounds_right 2 6) (FB 1 p.1 (decide (((1 : Nat) : Int) = 1)) (mostV p.1 p.2)) [d])) = mp (fun q_ => some (.ret (.bool true), [d])) (pairs 4 4) := by kernel_rfl
theorem bA2_0 : (pairs 4 4).map (fun p => endOf2 (exs GlT (ac 58) 1000 (seg f_law_bounds_right 2 6) (FB 2 p.1 (decide (((0 : Nat) : Int) = 1)) (mostV p.1 p.2)) [d])) = mp (fun q_ => some (.ret (.bool true), [d])) (pairs 4 4) := by kernel_rfl
theorem bA2_1 : (pairs 4 4).map (fun p => endOf2 (exs GlT (ac 58) 1000 (seg f_law_bounds_right 2 6) (FB 2 p.1 (decide (((1 : Nat) : Int) = 1)) (mostV p.1 p.2)) [d])) = mp (fun q_ => some (.ret (.bool true), [d])) (pairs 4 4) := by kernel_rfl
theorem bA3_0 : (pairs 4 4).map (fun p => endOf2 (exs GlT (ac 58) 1000 (seg f_law_bounds_right 2 6) (FB 3 p.1 (decide (((0 : Nat) : Int) = 1)) (mostV p.1 p.2)) [d])) = mp (fun q_ => some (.ret (.bool true), [d])) (pairs 4 4) := by kernel_rfl
theorem bA3_1 : (pairs 4 4).map (fun p => endOf2 (exs GlT (ac 58) 1000 (seg f_law_bounds_right 2 6) (FB 3 p.1 (decide (((1 : Nat) : Int) = 1)) (mostV p.1 p.2)) [d])) = mp (fun q_ => some (.ret (.bool true), [d])) (pairs 4 4) := by kernel_rfl
theorem bA4_0 : (pairs 4 4).map (fun p => endOf2 (exs GlT (ac 58) 1000 (seg f_law_bounds_right 2 6) (FB 4 p.1 (decide (((0 : Nat) : Int) = 1)) (mostV p.1 p.2)) [d])) = mp (fun q_ => some (.ret (.bool true), [d])) (pairs 4 4) := by kernel_rfl
theorem bA4_1 : (pairs 4 4).map (fun p => endOf2 (exs GlT (ac 58) 1000 (seg f_law_bounds_right 2 6) (FB 4 p.1 (decide (((1 : Nat) : Int) = 1)) (mostV p.1 p.2)) [d])) = mp (fun q_ => some (.ret (.bool true), [d])) (pairs 4 4) := by kernel_rfl
theorem bA5_0 : (pairs 4 4).map (fun p => endOf2 (exs GlT (ac 58) 1000 (seg f_law_bounds_right 2 6) (FB 5 p.1 (decide (((0 : Nat) : Int) = 1)) (mostV p.1 p.2)) [d])) = mp (fun q_ => some (.ret (.bool true), [d])) (pairs 4 4) := by kernel_rfl
theorem bA5_1 : (pairs 4 4).map (fun p => endOf2 (exs GlT (ac 58) 1000 (seg f_law_bounds_right 2 6) (FB 5 p.1 (decide (((1 : Nat) : Int) = 1)) (mostV p.1 p.2)) [d])) = mp (fun q_ => some (.ret (.bool true), [d])) (pairs 4 4) := by kernel_rfl
end
theorem most_at (H : AH) (a : Nat) : (List.range 4).map (fun r : Nat => asub H (.lst [.none, .int a, .int ((a : Int) + 1), .int ((a : Int) + 2)]) (.int (r : Int))) = mp (fun r => some (mostV a r)) (List.range 4) := by kernel_rfl
theorem bA (d : AObj) {r1 r2 r3 r4 : Nat} (h1 : r1 < 6) (h2 : r2 < 4) (h3 : r3 < 2) (h4 : r4 < 4) : endOf2 (exs GlT (ac 58) 1000 (seg f_law_bounds_right 2 6) (FB r1 r2 (decide ((r3 : Int) = 1)) (mostV r2 r4)) [d]) = some (.ret (.bool true), [d]) := by
  match r1, h1, r3, h3 with
  | 0, _, 0, _ => have q := at_map (bA0_0 d) (mem_pairs h2 h4); exact q
  | 0, _, 1, _ => have q := at_map (bA0_1 d) (mem_pairs h2 h4); exact q
  | 1, _, 0, _ => have q := at_map (bA1_0 d) (mem_pairs h2 h4); exact q
  | 1, _, 1, _ => have q := at_map (bA1_1 d) (mem_pairs h2 h4); exact q
  | 2, _, 0, _ => have q := at_map (bA2_0 d) (mem_pairs h2 h4); exact q
  | 2, _, 1, _ => have q := at_map (bA2_1 d) (mem_pairs h2 h4); exact q
  | 3, _, 0, _ => have q := at_map (bA3_0 d) (mem_pairs h2 h4); exact q
  | 3, _, 1, _ => have q := at_map (bA3_1 d) (mem_pairs h2 h4); exact q
  | 4, _, 0, _ => have q := at_map (bA4_0 d) (mem_pairs h2 h4); exact q
  | 4, _, 1, _ => have q := at_map (bA4_1 d) (mem_pairs h2 h4); exact q
  | 5, _, 0, _ => have q := at_map (bA5_0 d) (mem_pairs h2 h4); exact q
  | 5, _, 1, _ => have q := at_map (bA5_1 d) (mem_pairs h2 h4); exact q
theorem bounds_ok {d : AObj} (D : DealOk d) : ∃ d', DealOk d' ∧ ac 59 (.fn 35) [.obj 0] [d] = some (.bool true, [d']) := by
  refine via fun R_ k_ => ?_
  obtain ⟨r1, d1, h1, D1, t1⟩ := draw (F := [none, none, none, none, none, none, none, none]) D 57 (m := 6) (mi := 6) rfl (by decide)
  obtain ⟨r2, d2, h2, D2, t2⟩ := draw (F := [none, none, none, none, none, none, none, none]) D1 57 (m := 4) (mi := 4) rfl (by decide)
  obtain ⟨r3, d3, h3, D3, t3⟩ := draw (F := [none, none, none, none, none, none, none, none]) D2 57 (m := 2) (mi := 2) rfl (by decide)
  obtain ⟨r4, d4, h4, D4, t4⟩ := draw (F := [some (.int r1), some (.int r2), some (.bool (decide ((r3 : Int) = 1))), none, none, none, none, none]) D3 57 (m := 4) (mi := 4) rfl (by decide)
  obtain ⟨F', e3⟩ := endOf2_i (bA d4 h1 h2 h3 h4)
  refine k_ ?_
  refine ⟨d4, D4, run_body (f := f_law_bounds_right) (F := [some (.obj 0), none, none, none, none, none, none, none, none]) (F' := F') (by kernel_rfl) (by kernel_rfl) (by kernel_rfl) ?_⟩
  have e1 : exs GlT (ac 58) 1000 (seg f_law_bounds_right 0 1) [some (.obj 0), none, none, none, none, none, none, none, none] [d] = some ((.next, [some (.obj 0), some (.int r1), some (.int r2), some (.bool (decide ((r3 : Int) = 1))), none, none, none, none, none]), [d3]) :=
    exs_next (s := s_swap [1, 2, 3] [n_call (n_gl 53) [n_var 0, n_int 6], n_call (n_gl 53) [n_var 0, n_int 4], n_cmp .eq (n_call (n_gl 53) [n_var 0, n_int 2]) (n_int 1)]) (r := [])
      (ex_swap_ (is := [1, 2, 3]) (evs_cons t1 (evs_cons t2 (evs_cons (ev_cmp_ (o := .eq) t3 (H2 := [d3]) (y := .int 1) rfl rfl) evs_nil))) ⟨rfl, rfl⟩)
  have q1 : asub [d4] (.lst [.none, .int r2, .int ((r2 : Int) + 1), .int ((r2 : Int) + 2)]) (.int (r4 : Int)) = some (mostV r2 r4) := by have q := pick_ok (most_at [d4] r2) h4; exact q
  have g1 : (n_lst false [n_none, n_var 2, n_bin .add (n_var 2) (n_int 1), n_bin .add (n_var 2) (n_int 2)]).ev GlT (ac 58) [some (.obj 0), some (.int r1), some (.int r2), some (.bool (decide ((r3 : Int) = 1))), none, none, none, none, none] [d3] = some (.lst [.none, .int r2, .int ((r2 : Int) + 1), .int ((r2 : Int) + 2)], [d3]) := by kernel_rfl
  have e2 : exs GlT (ac 58) 1000 (seg f_law_bounds_right 1 1) [some (.obj 0), some (.int r1), some (.int r2), some (.bool (decide ((r3 : Int) = 1))), none, none, none, none, none] [d3] = some ((.next, FB r1 r2 (decide ((r3 : Int) = 1)) (mostV r2 r4)), [d4]) := by
    have q := exs_next (r := []) (ex_assign_ (W := 1000) (i := 4) (ev_sub_ g1 t4 q1) (show 4 < 9 by decide))
    exact q
  have hb : f_law_bounds_right.body = seg f_law_bounds_right 0 1 ++ (seg f_law_bounds_right 1 1 ++ seg f_law_bounds_right 2 6) := by kernel_rfl
  rw [hb, exs_append e1, exs_append e2, e3]
end
section
set_option Elab.async false
set_option autoImplicit false
set_option linter.unusedVariables false
set_option maxRecDepth 100000
set_option backward.match.sparseCases false
set_option tactic.hygienic false
set_option genSizeOf false
set_option genInjectivity false
open PySem PySem.W PyProof.Rows PySem.Calls
noncomputable abbrev r1 : XS := (s_assign (t_var 5 false) (n_call (n_gl 39) [(n_attr (n_var 0) Fld.waiting)]))
noncomputable abbrev r2 : XS := (s_assign (t_var 6 false) (n_tup [(n_var 1), (n_var 2), (n_var 3), (n_var 4)]))
noncomputable abbrev rc : XE := (n_cmp OpC.isNot (n_var 6) n_none)
noncomputable abbrev ra : XS := (s_augA (n_var 0) Fld.left Op2.sub (n_int 1))
noncomputable abbrev rd : XE := (n_cmp OpC.lt (n_attr (n_var 0) Fld.left) (n_int 0))
noncomputable abbrev rbody : List XS := [(s_augA (n_var 0) Fld.left Op2.sub (n_int 1)),
    (s_if (n_cmp OpC.lt (n_attr (n_var 0) Fld.left) (n_int 0)) [(s_raise (n_call (n_gl 14) [(n_str [82, 97, 110, 103, 101, 69, 114, 114, 111, 114]), (n_str [97, 32, 112, 97, 116, 116, 101, 114, 110, 32, 116, 97, 107, 101, 115, 32, 116, 111, 111, 32, 109, 97, 110, 121, 32, 115, 116, 101, 112, 115])]))] []),
    (s_assign (t_var 7 false) (n_sub (n_attr (n_var 0) Fld.steps) (n_sub (n_var 6) (n_int 0)))),
    (s_if (n_cmp OpC.eq (n_sub (n_var 7) (n_int 0)) (n_gl 31)) [(s_assign (t_attr (n_var 0) Fld.waiting) (n_slm (n_attr (n_var 0) Fld.waiting) none (some (n_var 5)))),
    (s_ret (n_tup [(n_sub (n_var 6) (n_int 1)), (n_sub (n_var 6) (n_int 2))]))] []),
    (s_assign (t_var 6 false) (n_own (n_var 0) 7 [(n_var 7), (n_var 6)])),
    (s_if (n_and [(n_cmp OpC.is (n_var 6) n_none), (n_cmp OpC.gt (n_call (n_gl 39) [(n_attr (n_var 0) Fld.waiting)]) (n_var 5))]) [(s_assign (t_var 6 false) (n_meth (n_attr (n_var 0) Fld.waiting) Me.pop []))] [])]
noncomputable abbrev q1 : XS := (s_assign (t_tup [(t_var 7 false), (t_var 8 false)]) (n_var 0))
noncomputable abbrev q2 : XS := (s_assign (t_var 9 false) (n_call (n_gl 35) [(n_var 7), (n_var 1), (n_var 4), (n_var 5), (n_var 6)]))
noncomputable abbrev qo : XE := (n_var 9)
noncomputable abbrev qes : List XE := [(n_int 0), (n_var 2), (n_bin Op2.mul (n_tup [n_none]) (n_var 3)), (n_bin Op2.add (n_bin Op2.mul (n_tup [(n_tup [(n_int 0), (n_int 0)])]) (n_var 8)) (n_bin Op2.mul (n_tup [(n_int 0)]) (n_bin Op2.add (n_var 3) (n_int 1))))]
noncomputable abbrev p1 : XE := (n_gl 36)
noncomputable abbrev pes : List XE := [(n_call (n_gl 33) [(n_var 0)]), (n_var 1), (n_var 2), (n_call (n_gl 38) [(n_var 0)]), (n_cmp OpC.isIn (n_str [105]) (n_var 3)), (n_cmp OpC.isIn (n_str [109]) (n_var 3)), (n_var 4)]
noncomputable abbrev t1 : XS := (s_assign (t_var 1 false) (n_bin Op2.add (n_int 1) (n_call (n_gl 53) [(n_var 0), (n_int 5)])))
noncomputable abbrev t2 : XS := (s_assign (t_var 2 false) (n_tup [(n_str [115, 101, 113]), (n_call (n_gl 47) [(n_bin Op2.mul (n_lst false [(n_tup [(n_str [99, 104, 97, 114]), (n_int 97)])]) (n_var 1))])]))
noncomputable abbrev t3 : XS := (s_if (n_cmp OpC.ne (n_call (n_gl 37) [(n_var 2), (n_bin Op2.mul (n_str [97]) (n_var 1)), (n_int 0), (n_str []), (n_callk (n_gl 15) (n_bin Op2.add (n_var 1) (n_int 1)))]) (n_tup [(n_var 1), (n_lst false [])])) [(s_ret (n_bool false))] [])
noncomputable abbrev tg : XE := (n_gl 37)
noncomputable abbrev tes : List XE := [(n_var 2), (n_bin Op2.mul (n_str [97]) (n_var 1)), (n_int 0), (n_str []), (n_callk (n_gl 15) (n_var 1))]
noncomputable abbrev t5 : XS := (s_ret (n_bool false))
noncomputable def m19 (n : Nat) : AF → AM Unit := rLoop GlT (ac n) 1000 r1 r2 rc ra rd rbody
noncomputable def m26 (n : Nat) : AF → AM Unit := rOwn GlT (ac (n + 1)) 1000 (rcOne 19 f_Search_run (m19 n)) q1 q2 qo 6 qes
noncomputable def m27 (n : Nat) : AF → AM Unit := rCall GlT (ac (n + 2)) (rcOne 26 f_match_code (m26 n)) p1 pes
noncomputable def m38 (n : Nat) : AF → AM Unit := rCall GlT (ac (n + 3)) (rcOne 27 f_match_at (m27 n)) tg tes
noncomputable def r38 (m : Nat) : AM Unit := abind (t2.ex GlT (ac 58) 1000 [none, some (.int (m : Int)), none, none]) (rthen fun F => abind (t3.ex GlT (ac 58) 1000 F) (rthen fun F => m38 55 F))
theorem r38_all : ([1, 2, 3, 4, 5].all fun m => (r38 m []).isSome) = true := by kernel_rfl
end
section
set_option Elab.async false
set_option autoImplicit false
set_option linter.unusedVariables false
set_option linter.unusedSectionVars false
set_option maxRecDepth 100000
set_option backward.match.sparseCases false
set_option tactic.hygienic false
set_option genSizeOf false
set_option genInjectivity false
open PySem PySem.W PyProof.Rows PySem.Calls
theorem room_deeper {A : Around} {n : Nat} (r : Room A (n + 1)) (env : Env) : Room (A.deeper env) n := by
  obtain ⟨a, b, c⟩ := r
  refine ⟨?_, ?_, c⟩
  · show A.depth + 1 + n < _; omega
  · show A.units + 3 + 8 * n + 8 < _; omega
section
variable {K : Frag} (FK : FragOk K) {prog : Program} {w : World} {h : Heap} {mb : Str → Option Value} (X : K.In h) (nb : h.Ns builtinsNs mb) (hb : ∀ x : Str, x ≠ "__name__" → mb x = bootBuiltins x) (nl : h.NoLimit)
include FK X nb hb nl
theorem hyp_of {A : Around} {n : Nat} (R : Room A n) : Hyp (theBase prog w h K mb) A (ac n) :=
  ⟨base_ok FK X nb hb nl, cls_ok FK X nb hb nl, src_ok FK X nb hb nl, acall_ok (base_ok FK X nb hb nl) (cls_ok FK X nb hb nl) (src_ok FK X nb hb nl) (fns_ok (prog := prog) (w := w) FK X nb hb nl) isoL 1000 n A R, R.handled, by have := R.units; omega⟩
theorem fail_ok : FailOk (theBase prog w h K mb) 7 := failB_i (B := theBase prog w h K mb) X FK.fail
theorem ini_ok : IniOk (theBase prog w h K mb) 7 := iniB_i (B := theBase prog w h K mb) (k := 7) X FK.ini FK.lc7
theorem fn_at {k : Nat} {f : IFn} (hf : fnT k = some f) : FnOK (theBase prog w h K mb) k f := (fns_ok (prog := prog) (w := w) FK X nb hb nl).all k f hf
variable {l : List Env} {A : Around}
theorem rc19 {n : Nat} (hn : 0 < n) (R : Room A (n + 1)) (hfr : A.frames = some l) : RCall (theBase prog w h K mb) A l (rcOne 19 f_Search_run (m19 n)) :=
  rcall_one (base_ok FK X nb hb nl) (fn_at FK X nb hb nl rfl) (by have := R.depth; omega) hfr fun T sc body env hm hk hf hfr' => by
    have R' := room_deeper R env
    have room : (A.deeper env).depth + 1 < recursionLimit := by
      have := R.depth
      show A.depth + 1 + 1 < _
      omega
    exact rx_loop (hyp_of FK X nb hb nl R') hk hfr' hf (fail_ok FK X nb hb nl) (ini_ok FK X nb hb nl) room (g := n_gl 14) (k2 := [97, 32, 112, 97, 116, 116, 101, 114, 110, 32, 116, 97, 107, 101, 115, 32, 116, 111, 111, 32, 109, 97, 110, 121, 32, 115, 116, 101, 112, 115]) hm (fun F H => rfl) (fun F H => rfl)
theorem rc26 {n : Nat} (hn : 0 < n) (R : Room A (n + 2)) (hfr : A.frames = some l) : RCall (theBase prog w h K mb) A l (rcOne 26 f_match_code (m26 n)) :=
  rcall_one (base_ok FK X nb hb nl) (fn_at FK X nb hb nl rfl) (by have := R.depth; omega) hfr fun T sc body env hm hk hf hfr' => by
    have R' := room_deeper (n := n + 1) R env
    exact rx_ownA (hyp_of FK X nb hb nl R') hk hfr' hf (rc19 FK X nb hb nl hn R' hfr') (s1 := q1) (s2 := q2) (o := qo) (k := 6) (es := qes) hm
theorem rc27 {n : Nat} (hn : 0 < n) (R : Room A (n + 3)) (hfr : A.frames = some l) : RCall (theBase prog w h K mb) A l (rcOne 27 f_match_at (m27 n)) :=
  rcall_one (base_ok FK X nb hb nl) (fn_at FK X nb hb nl rfl) (by have := R.depth; omega) hfr fun T sc body env hm hk hf hfr' => by
    have R' := room_deeper (n := n + 2) R env
    exact rx_callR (hyp_of FK X nb hb nl R') hk hfr' hf (rc26 FK X nb hb nl hn R' hfr') (g := p1) (es := pes) hm
end
end
section
set_option Elab.async false
set_option autoImplicit false
set_option linter.unusedVariables false
set_option linter.unusedSectionVars false
set_option maxRecDepth 100000
set_option backward.match.sparseCases false
set_option tactic.hygienic false
set_option genSizeOf false
set_option genInjectivity false
open PySem PySem.W PyProof.Rows PySem.Calls
theorem FrsOk.at {B : Base} {Y : Addr → Prop} {l : List Env} {G G' : St} {h h' : Heap} (f : FrsOk l G h) (st : Step B Y G h G' h') {a : Addr} (ha : a ∈ locs l) (n : ¬ Y a) {o : Obj} (e : h.get? a = some o) : h'.get? a = some o := by
  refine via fun R_ k_ => ?_
  obtain ⟨x, hx, q⟩ := List.mem_map.mp ha
  obtain ⟨_, _, _, d, _⟩ := f x hx
  refine k_ ?_
  exact st.keep a o n (by rw [← q]; exact d) (fun m => nomatch m) e
theorem FrsOk.bare {l : List Env} {G : St} {h : Heap} (f : FrsOk l G h) : FrsOk l ⟨G.g, []⟩ h := fun env he => by
  refine via fun R_ k_ => ?_
  obtain ⟨a, b, c, d, r⟩ := f env he
  refine k_ ?_
  exact ⟨a, b, c, (fun m => nomatch m), r⟩
theorem try_i {T : Tabs} {sc : Scope} {ns : List (List Nat)} {a hd : List XS} {i : Nat} {x : Stmt} (h : (s_try a i hd).mt T sc ns x = true) : ∃ body c cp z suite hp p, x = .Try body [.ExceptHandler (some (.Name c cp)) (some z) suite hp] [] [] p ∧ mSs T sc ns a body = true ∧ isS jsFail c = true ∧ isKind sc c .globalImplicit = true ∧ isNm ns i z = true ∧ isKind sc z .local = true ∧ mSs T sc ns hd suite = true := by
  obtain ⟨x, hs, o, f, p, rfl, h⟩ := stTry_i (f := _) h
  have h := and_i h
  have h9 := h.2
  have h := and_i h.1
  obtain ⟨⟨c, z, u, hp⟩, rfl, hh⟩ := on1_i h.2
  have h := and_i h.1
  cases on0_i h.1
  cases on0_i h.2
  have hh := and_i hh
  have h8 := hh.2
  have hh := and_i hh.1
  refine onS_e hh.1 fun c h1 => ?_
  refine onS_e hh.2 fun z h2 => ?_
  refine onName_e h1 fun c cp h1 => ?_
  have h1 := and_i h1
  have h2 := and_i h2
  exact ⟨_, _, _, _, _, _, _, rfl, h9, h1.1, h1.2, h2.1, h2.2, h8⟩
noncomputable abbrev fr38 (m : Nat) : AF := [none, some (.int (m : Int)), none, none]
noncomputable def nx5 (d : AObj) : AObj := match ac 58 (.fn 30) [.obj 0, .int 5] [d] with
  | some (_, [d']) => d'
  | _ => d
theorem draw5 {d : AObj} (D : DealOk d) : ∃ m, (m ∈ [1, 2, 3, 4, 5]) ∧ DealOk (nx5 d) ∧ t1.ex GlT (ac 58) 1000 [some (.obj 0), none, none, none] [d] = some ((.next, [some (.obj 0), some (.int ((m : Nat) : Int)), none, none]), [nx5 d]) := by
  refine via fun R_ k_ => ?_
  obtain ⟨r, d', h1, h2, h3⟩ := take_ok D 57 (m := 5) (by decide)
  refine k_ ?_
  have hd : nx5 d = d' := by
    unfold nx5
    rw [show ac 58 (.fn 30) [.obj 0, .int 5] [d] = _ from h3]
  rw [hd]
  have q : (n_call (n_gl 53) [n_var 0, n_int 5]).ev GlT (ac 58) [some (.obj 0), none, none, none] [d] = some (.int (r : Nat), [d']) := ev_call_ (k := 30) rfl (evs_cons (x := .obj 0) (H1 := [d]) rfl (evs_cons (x := .int 5) (H1 := [d]) rfl evs_nil)) h3
  have e := ex_assign_ (W := 1000) (i := 1) (ev_bin_ (o := .add) (a := n_int 1) (x := .int 1) (y := .int (r : Nat)) (z := .int (1 + (r : Nat))) rfl q rfl) (by decide)
  refine ⟨r + 1, ?_, h2, ?_⟩
  · match r, h1 with
    | 0, _ | 1, _ | 2, _ | 3, _ | 4, _ => decide
  · have c : ((r + 1 : Nat) : Int) = 1 + (r : Nat) := by omega
    rw [c]; exact e
theorem run5 {m : Nat} (hm : m ∈ [1, 2, 3, 4, 5]) : ∃ F4 H4 F5 H5 H', t2.ex GlT (ac 58) 1000 (fr38 m) [] = some ((.next, F4), H4) ∧ t3.ex GlT (ac 58) 1000 F4 H4 = some ((.next, F5), H5) ∧ m38 55 F5 H5 = some ((), H') := by
  have q := List.all_eq_true.mp r38_all m hm
  obtain ⟨⟨u, H'⟩, e⟩ := Option.isSome_iff_exists.mp q
  unfold r38 at e
  obtain ⟨p4, H4, e4, e5⟩ := abind_some e
  obtain ⟨F4, rfl, e6⟩ := rthen_some e5
  obtain ⟨p5, H5, e7, e8⟩ := abind_some e6
  obtain ⟨F5, rfl, e9⟩ := rthen_some e8
  exact ⟨F4, H4, F5, H5, H', e4, e7, e9⟩
section
variable {K : Frag} (FK : FragOk K) {prog : Program} {w : World} {h : Heap} {mb : Str → Option Value} (X : K.In h) (nb : h.Ns builtinsNs mb) (hb : ∀ x : Str, x ≠ "__name__" → mb x = bootBuiltins x) (nl : h.NoLimit)
include FK X nb hb nl
theorem steps_call {A : Around} {l : List Env} (R : Room A 59) (hfr : A.frames = some l) {s : Shared} {G : St} {d : AObj} {v : Value} (D : DealOk d) (I : Inv (theBase prog w h K mb) G [d] s.heap) (r : Rep (theBase prog w h K mb) G (.obj 0) v) (fs : FrsOk l G s.heap)
    {Q : Value → Shared → Prop} {E : Value → Shared → Prop} (hQ : ∀ G' h' tk', DealOk (nx5 d) → Step (theBase prog w h K mb) (fun b => b ∈ locs l) G s.heap G' h' → Inv (theBase prog w h K mb) G' [nx5 d] h' → (∀ a ∈ locs l, G'.g a = none ∧ a ∉ G'.adr) →
      (∀ a ∈ locs l, ∀ o, s.heap.get? a = some o → (∀ vs, o.data ≠ .fields vs) → ∃ sl, h'.get? a = some { o with slots := sl }) → Q (.bool true) { s with heap := h', toks := tk' }) :
    Callee s.heap (.ref 374) ∧ wpAny (model prog w) A (call (.ref 374) [v]) Q E s := by
  have O := base_ok (prog := prog) (w := w) FK X nb hb nl
  obtain ⟨fd, body, C, hbody, hm, bind, nc⟩ := fnL_i (B := theBase prog w h K mb) (k := 38) (f := f_law_steps_right) X (by
    have := List.all_eq_true.mp FK.fns 38 (by decide)
    obtain ⟨f, hf, q⟩ := onS_i ((Bool.or_eq_true _ _).mp this |>.resolve_left (by decide))
    cases hf; exact q) FK.lc38
  obtain ⟨o, ho, hd⟩ := C.obj
  have rs : RepL (theBase prog w h K mb) G [.obj 0] [v] := ⟨v, _, rfl, r, rfl⟩
  refine ⟨.func (I.sub _ _ (I.old _ _ ho C.tab)) hd, enter_top O C hbody (args := [.obj 0]) (F := [some (.obj 0), none, none, none]) (ar := ⟨[v], []⟩) rfl I rs (bind s [v] rfl) (by have := R.depth; omega) fun env G1 h1 tk1 hsc hf fresh st1 I1 P1 => ?_⟩
  have y := hyp_of (prog := prog) (w := w) FK X nb hb nl (room_deeper (n := 58) R env)
  have hfr' := Around.frames_deeper (env := env) hfr
  have hk : env.scope.kind = .function := P1.kind
  have live : ∀ a ∈ locs l, ∃ o, s.heap.get? a = some o := fun a ha => by
    refine via fun R_ k_ => ?_
    obtain ⟨x, hx, q⟩ := List.mem_map.mp ha
    obtain ⟨_, _, _, _, o, e, _⟩ := fs x hx
    refine k_ ?_
    exact ⟨o, by rw [← q]; exact e⟩
  have nown : ∀ a ∈ locs l, ¬ Own fd.scope env a := fun a ha hy => by
    obtain ⟨o, e⟩ := live a ha
    rw [fresh _ hy] at e; cases e
  have nown' : ∀ x ∈ l, ¬ Own fd.scope env x.locals := fun x hx => nown _ (List.mem_map_of_mem hx)
  have hnl : env.locals ∉ locs l := fun q => nown _ q (.inl rfl)
  refine onC_e (f := _) hm fun x1 xs1 hm1 => ?_
  have hm1 := and_i hm1
  refine onC_e (f := _) hm1.2 fun x2 xs2 hm2 => ?_
  have hm2 := and_i hm2
  refine onC_e (f := _) hm2.2 fun x3 xs3 hm3 => ?_
  have hm3 := and_i hm3
  refine onC_e (f := _) hm3.2 fun x4 xs4 hm4 => ?_
  have hm4 := and_i hm4
  refine via fun R_ k_ => ?_
  obtain ⟨m, hmem, D', eq1⟩ := draw5 D
  obtain ⟨F4, H4, F5, H5, H', e4, e5, e6⟩ := run5 hmem
  refine k_ ?_
  refine wpAny_execs_cons (t1.ok y 1000 hm1.1 env hk _ _ G1 [d] .next _ [nx5 d] P1 I1 eq1 _ _ fun f G2 h2 tk2 s2 I2 P2 r2 => ?_)
  cases f with
  | next =>
    have fs1 := fs.step st1
    have fs2 := fs1.stepX s2 nown'
    have I3 : Inv (theBase prog w h K mb) ⟨G2.g, []⟩ [] h2 := ⟨I2.sub, I2.old, rfl, List.Pairwise.nil, (fun q_ m => nomatch m), (fun q_ q_ q_ e => nomatch e)⟩
    have P3 : FrOK (theBase prog w h K mb) (theBase prog w h K mb).T fd.scope f_law_steps_right.names env (fr38 m) ⟨G2.g, []⟩ h2 := P2.bare rfl (fun i v e => by
      match i, e with
      | 0, e => cases e
      | 1, e => exact ⟨e, by cases e; rfl⟩
      | 2, e => cases e
      | 3, e => cases e
      | n + 4, e => cases e) nc
    refine wpAny_execs_cons (t2.ok y 1000 hm2.1 env hk _ _ ⟨G2.g, []⟩ [] .next _ H4 P3 I3 e4 _ _ fun f G4 h4 tk4 s4 I4 P4 r4 => ?_)
    cases f with
    | next =>
      refine wpAny_execs_cons (t3.ok y 1000 hm3.1 env hk _ _ G4 H4 .next _ H5 P4 I4 e5 _ _ fun f G5 h5 tk5 s5 I5 P5 r5 => ?_)
      cases f with
      | next =>
        refine via fun R_ k_ => ?_
        obtain ⟨bd, c, cp, z, suite, hp, p, rfl, k1, k2, k3, k4, k5, k6⟩ := try_i hm4.1
        refine k_ ?_
        have fs4 := fs2.bare.stepX s4 nown'
        have fs5 := fs4.stepX s5 nown'
        refine wpAny_execs_cons (wpAny_Try_except (rx_callE y hk hfr' hf (rc27 FK X nb hb nl (n := 55) (by decide) (room_deeper (n := 58) R env) hfr') (g := tg) (es := tes) k1 F5 _ G5 H5 H' P5 I5 e6 (fun G6 h6 s6 => fs5.stepX s6 nown') _ _ fun f e G6 h6 G' h' tk' hff s6 fo x => ?_))
        obtain ⟨fo, m0, ns0⟩ := fo
        refine thrown_leaves (s := { s with heap := h', toks := tk' }) hfr' hf hff x fun h7 x7 => ?_
        refine met_ok (s := { s with heap := h7, toks := tk' }) y (fail_ok FK X nb hb nl) (kf := 14) rfl rfl P5 fo ns0 x7 hnl k2 k3 k4 k5 k6 fun G8 h8 tk8 cal => ?_
        let Y : Addr → Prop := fun b => b ∈ locs l ∨ Own fd.scope env b
        have wk : ∀ {G G' : St} {g1 g2 : Heap}, Step (theBase prog w h K mb) (Own fd.scope env) G g1 G' g2 → Step (theBase prog w h K mb) Y G g1 G' g2 := fun st => st.weak fun b q => .inr q
        have wl : Step (theBase prog w h K mb) Y G6 h6 G8 h8 := cal.st.weak fun b q => by
          rcases List.mem_cons.mp q with q | q
          · exact .inr (.inl q)
          · exact .inl q
        have w4 : Step (theBase prog w h K mb) Y ⟨G2.g, []⟩ h2 G4 h4 := wk s4
        have w5 : Step (theBase prog w h K mb) Y G4 h4 G5 h5 := wk s5
        have w6 : Step (theBase prog w h K mb) Y G5 h5 G6 h6 := wk s6
        have all : Step (theBase prog w h K mb) Y ⟨G2.g, []⟩ h2 G8 h8 := w4.trans (w5.trans (w6.trans wl))
        have aG : G2.al = G.al := by
          obtain ⟨q, e, _⟩ := (st1.pure.trans s2).al
          have a1 := I2.len
          have a2 := I.len
          rw [e, List.length_append] at a1
          have : q.length = 0 := by
            have : [nx5 d].length = [d].length := rfl
            omega
          rw [e, List.length_eq_zero_iff.mp this, List.append_nil]
        have off : ∀ a ∈ G2.adr, ¬ Y a := fun a ha hy => by
          rcases hy with hy | hy
          · refine via fun R_ k_ => ?_
            obtain ⟨x, hx, q⟩ := List.mem_map.mp hy
            obtain ⟨_, _, _, n, _⟩ := fs2 x hx
            refine k_ ?_
            exact n (by rw [q]; exact ha)
          · have ha' : a ∈ G.adr := by
              unfold St.adr at ha ⊢
              rw [aG] at ha; exact ha
            obtain ⟨_, _, o, e⟩ := I.off a ha'
            rw [fresh _ hy] at e; cases e
        obtain ⟨sb, Ib⟩ := bare_back I2 all cal.I off
        have tot := ((st1.pure.trans (wk s2)).trans sb).shutTo fresh
        refine hQ ⟨G8.g, G2.al⟩ h8 tk8 D' tot Ib (fun a ha => ⟨(cal.off a (.tail _ ha)).1, fun q => off a q (.inl ha)⟩) fun a ha o e n => ?_
        have e1 := fs.at st1 ha (fun q => q) e
        have e2 := fs1.at s2 ha (nown a ha) e1
        have e3 := fs2.bare.at s4 ha (nown a ha) e2
        have e4 := fs4.at s5 ha (nown a ha) e3
        have e5 := fs5.at s6 ha (nown a ha) e4
        exact cal.up a ha o e5 n
      | _ => exact r5.elim
    | _ => exact r4.elim
  | _ => exact r2.elim
end
end
section
set_option Elab.async false
set_option autoImplicit false
set_option linter.unusedVariables false
set_option linter.unusedSectionVars false
set_option maxRecDepth 100000
set_option backward.match.sparseCases false
set_option tactic.hygienic false
set_option genSizeOf false
set_option genInjectivity false
open PySem PySem.W PyProof.Rows PySem.Calls
noncomputable abbrev dC : XS := (s_acomp 1 [[110, 117, 109, 98, 101, 114]] (n_bin Op2.mod (n_call (n_gl 40) [(n_call (n_gl 41) [(n_var 0)])]) (n_int 1000003)) (t_var 0 false) (i_of (n_slc (n_var 0) none (some (n_int 40)))) [] [])
noncomputable abbrev dB : List XS := [(s_assign (t_var 2 false) (n_bin Op2.mod (n_bin Op2.add (n_bin Op2.add (n_bin Op2.mul (n_var 2) (n_int 16807)) (n_var 3)) (n_int 1)) (n_int 2147483647)))]
theorem cut_len (xs : List Int) : (cut xs none (some 40)).length ≤ 40 := by
  unfold cut
  rw [List.length_drop, List.length_take]
  have : clip xs.length xs.length (some 40) ≤ 40 := by rw [show clip xs.length xs.length (some 40) = clipAt xs.length ((40 : Nat) : Int) from rfl, clipAt_nat]; exact Nat.min_le_left _ _
  omega
theorem one_turn (n : Nat) (i : Int) : cf ((t_var 0 false).st GlT (ac n)) (fun F => ands GlT (ac n) F []) (fun F => (n_bin Op2.mod (n_call (n_gl 40) [(n_call (n_gl 41) [(n_var 0)])]) (n_int 1000003)).ev GlT (ac n) F) [none] (.int i) [] = some (some (.int ((i.natAbs : Int) % 1000003)), []) := by kernel_rfl
theorem comp_all {f : AV → AM (Option AV)} {g : Int → Int} (h : ∀ i, f (.int i) [] = some (some (.int (g i)), [])) : ∀ ys : List Int, acomp f (ys.map .int) [] = some ((ys.map g).map .int, [])
  | [] => rfl
  | i :: r => by
    show abind (f (.int i)) (fun o => abind (acomp f (r.map .int)) fun l => apure (match o with
      | some v => v :: l
      | none => l)) [] = _
    rw [abind_eq (h i), abind_eq (comp_all h r)]; rfl
theorem deal_comp (n : Nat) (xs : List Int) (hx : xs.length ≤ 63) {b c d : Option AV} : dC.ex GlT (ac n) 1000 [some (.row (xs.map .int)), b, c, d] [] = some ((.next, [some (.row (xs.map .int)), some (.lst (((cut xs none (some 40)).map fun i => (i.natAbs : Int) % 1000003).map .int)), c, d]), []) := by
  have e1 : (i_of (n_slc (n_var 0) none (some (n_int 40)))).sr GlT (ac n) [some (.row (xs.map .int)), b, c, d] [] = some ((cut xs none (some 40)).map .int, []) := by
    have e0 : (n_slc (n_var 0) none (some (n_int 40))).ev GlT (ac n) [some (.row (xs.map .int)), b, c, d] [] = some (.lst ((cut xs none (some 40)).map .int), []) := by
      show (aif ((xs.map AV.int).length ≤ line) (AV.lst (cut (xs.map .int) none (some 40)))).map (fun v => (v, ([] : AH))) = _
      rw [aif_eq (by rw [List.length_map]; exact Nat.le_trans hx (by decide)), cut_map]; rfl
    show abind ((n_slc (n_var 0) none (some (n_int 40))).ev GlT (ac n) [some (.row (xs.map .int)), b, c, d]) (fun v => aopt (aiterOf v)) [] = _
    rw [abind_eq e0]; rfl
  have e2 : evComp GlT (ac n) [some (.row (xs.map .int)), b, c, d] [[110, 117, 109, 98, 101, 114]] (n_bin Op2.mod (n_call (n_gl 40) [(n_call (n_gl 41) [(n_var 0)])]) (n_int 1000003)) (t_var 0 false) (i_of (n_slc (n_var 0) none (some (n_int 40)))) [] [] [] =
      some (.lst (((cut xs none (some 40)).map fun i => (i.natAbs : Int) % 1000003).map .int), []) := by
    have e3 := comp_all (g := fun i => (i.natAbs : Int) % 1000003) (one_turn n) (cut xs none (some 40))
    unfold evComp
    rw [abind_eq e1, opt_eq (o := capsOf _ []) (x := []) rfl]
    refine (abind_eq e3).trans ?_
    rw [opt_eq (aif_eq (x := ()) ?_)]
    · rfl
    · rw [List.length_map, List.length_map]
      exact Nat.le_trans (cut_len xs) (by decide)
  show abind (evComp GlT (ac n) [some (.row (xs.map .int)), b, c, d] [[110, 117, 109, 98, 101, 114]] (n_bin Op2.mod (n_call (n_gl 40) [(n_call (n_gl 41) [(n_var 0)])]) (n_int 1000003)) (t_var 0 false) (i_of (n_slc (n_var 0) none (some (n_int 40)))) [] []) (fun v => abind (aopt (aif (1 < [some (.row (xs.map .int)), b, c, d].length) ())) fun q_ => apure (Flo.next, [some (.row (xs.map .int)), b, c, d].set 1 (some v))) [] = _
  rw [abind_eq e2]; rfl
theorem seed_turn (n : Nat) (a b : Option AV) (s i : Int) : exs GlT (ac n) 1000 dB [a, b, some (.int s), some (.int i)] [] = some ((.next, [a, b, some (.int ((s * 16807 + i + 1) % 2147483647)), some (.int i)]), []) := by kernel_rfl
noncomputable abbrev sT (n : Nat) : AV → AF → AM (Flo × AF) := fun x F => abind ((t_var 3 false).st GlT (ac n) x F) fun F' => exs GlT (ac n) 1000 dB F'
theorem seed_all (n : Nat) (a b : Option AV) : ∀ (ys : List Int) (s : Int) (x : Option AV), ∃ s' x', afor (sT n) (ys.map .int) [a, b, some (.int s), x] [] = some ((.next, [a, b, some (.int s'), x']), [])
  | [], s, x => ⟨s, x, rfl⟩
  | i :: r, s, x => by
    obtain ⟨s', x', h⟩ := seed_all n a b r ((s * 16807 + i + 1) % 2147483647) (some (.int i))
    refine ⟨s', x', ?_⟩
    have e : sT n (.int i) [a, b, some (.int s), x] [] = some ((.next, [a, b, some (.int ((s * 16807 + i + 1) % 2147483647)), some (.int i)]), []) := by
      have q : (t_var 3 false).st GlT (ac n) (.int i) [a, b, some (.int s), x] [] = some ([a, b, some (.int s), some (.int i)], []) := rfl
      show abind ((t_var 3 false).st GlT (ac n) (.int i) [a, b, some (.int s), x]) (fun F' => exs GlT (ac n) 1000 dB F') [] = _
      rw [abind_eq q]; exact seed_turn n a b s i
    show abind (sT n (.int i) [a, b, some (.int s), x]) (fun p => athen (afor (sT n) (r.map .int)) p) [] = _
    rw [abind_eq e]; exact h
theorem deal_ok (xs : List Int) (hx : xs.length ≤ 63) (n : Nat) : ∃ d, DealOk d ∧ ac (n + 1) (.fn 29) [.row (xs.map .int)] [] = some (.obj 0, [d]) := by
  let ns : List Int := (cut xs none (some 40)).map fun i => (i.natAbs : Int) % 1000003
  obtain ⟨s', x', h⟩ := seed_all n (some (.row (xs.map .int))) (some (.lst (ns.map .int))) ns 73 none
  refine ⟨.list [.lst (ns.map .int), .int 0, .int s'], ⟨ns, 0, s', rfl, by show (List.map _ _).length ≤ 40; rw [List.length_map]; exact cut_len xs, by decide⟩, ?_⟩
  have e : exs GlT (ac n) 1000 f_law_deal.body [some (.row (xs.map .int)), none, none, none] [] = some ((.ret (.obj 0), [some (.row (xs.map .int)), some (.lst (ns.map .int)), some (.int s'), x']), [.list [.lst (ns.map .int), .int 0, .int s']]) := by
    refine (exs_next (deal_comp n xs hx)).trans ((exs_next (F1 := [some (.row (xs.map .int)), some (.lst (ns.map .int)), some (.int 73), none]) (H1 := []) rfl).trans ((exs_next (F1 := [some (.row (xs.map .int)), some (.lst (ns.map .int)), some (.int s'), x']) (H1 := []) ?_).trans (exs_ret rfl)))
    exact h
  show abind (aopt (fnT 29)) (fun ir => apart (isoL 29 && [AV.row (xs.map .int)].all (noRef 8)) (arun GlT 1000 (ac n) ir [.row (xs.map .int)])) _ = _
  rw [opt_eq (o := fnT 29) (x := f_law_deal) rfl]
  show abind (aopt (frameOf 4 1 [.row (xs.map .int)] [])) (fun F => abind (exs GlT (ac n) 1000 f_law_deal.body F) fun p => apure p.1.val) _ = _
  rw [opt_eq (o := frameOf 4 1 [.row (xs.map .int)] []) (x := [some (.row (xs.map .int)), none, none, none]) rfl, abind_eq e]; rfl
end
section
set_option Elab.async false
set_option autoImplicit false
set_option linter.unusedVariables false
set_option linter.unusedSectionVars false
set_option maxRecDepth 100000
set_option backward.match.sparseCases false
set_option tactic.hygienic false
set_option genSizeOf false
set_option genInjectivity false
open PySem PySem.W PyProof.Rows PySem.Calls
noncomputable def nxk (k : Nat) (d : AObj) : AObj := match ac 59 (.fn k) [.obj 0] [d] with
  | some (_, [d']) => d'
  | _ => d
noncomputable def Good (k : Nat) (d : AObj) : Prop := DealOk (nxk k d) ∧ ac 59 (.fn k) [.obj 0] [d] = some (.bool true, [nxk k d])
theorem good_of {k : Nat} {d : AObj} (h : ∃ d', DealOk d' ∧ ac 59 (.fn k) [.obj 0] [d] = some (.bool true, [d'])) : Good k d := by
  obtain ⟨d', D, e⟩ := h
  have q : nxk k d = d' := by
    unfold nxk
    rw [e]
  unfold Good
  rw [q]
  exact ⟨D, e⟩
noncomputable abbrev nt (g : Nat) : XE := n_not (n_call (n_gl g) [n_var 1])
noncomputable abbrev L1' : XS := s_if (n_or [nt 56, nt 57, nt 58]) [s_ret (n_bool false)] []
noncomputable abbrev L2' : XS := s_if (n_or [nt 59, nt 60, nt 61]) [s_ret (n_bool false)] []
noncomputable abbrev lF (rw t : Option AV) : AF := [rw, some (.obj 0), t]
theorem nt_ev {g k : Nat} (hg : GlT.val g = some (.fn k)) {d d' : AObj} {rw t : Option AV} (h : ac 59 (.fn k) [.obj 0] [d] = some (.bool true, [d'])) : (nt g).ev GlT (ac 59) (lF rw t) [d] = some (.bool false, [d']) := by
  have e : (n_call (n_gl g) [n_var 1]).ev GlT (ac 59) (lF rw t) [d] = some (.bool true, [d']) := ev_call_ (k := k) (by show (GlT.val g).map _ = _; rw [hg]; rfl) (evs_cons (x := .obj 0) (H1 := [d]) rfl evs_nil) h
  show abind ((n_call (n_gl g) [n_var 1]).ev GlT (ac 59) (lF rw t)) (fun v => abind (aopt (truthA v)) fun b => apure (AV.bool (!b))) [d] = _
  rw [abind_eq e]; rfl
section
variable {G : Glo} {call : Orc} {F : AF} {H H1 H2 H3 : AH}
theorem ors_next {e : XE} {r : List XE} (h : e.ev G call F H = some (.bool false, H1)) : ors G call F (e :: r) H = ors G call F r H1 := by
  show abind (e.ev G call F) (fun v => abind (aopt (truthA v)) fun t => if t then apure (.bool true) else ors G call F r) H = _
  rw [abind_eq h]; rfl
theorem or3_no {a b c : XE} (h1 : a.ev G call F H = some (.bool false, H1)) (h2 : b.ev G call F H1 = some (.bool false, H2)) (h3 : c.ev G call F H2 = some (.bool false, H3)) : (n_or [a, b, c]).ev G call F H = some (.bool false, H3) := by
  show ors G call F [a, b, c] H = _
  rw [ors_next h1, ors_next h2, ors_next h3]; rfl
theorem ex_skip {W : Nat} {c : XE} {a : List XS} (h : c.ev G call F H = some (.bool false, H1)) : (s_if c a []).ex G call W F H = some ((.next, F), H1) := (ex_if_ h).trans rfl
end
theorem first_three {d : AObj} (D : DealOk d) (rw t : Option AV) : DealOk (nxk 35 (nxk 34 (nxk 33 d))) ∧ L1'.ex GlT (ac 59) 1000 (lF rw t) [d] = some ((.next, lF rw t), [nxk 35 (nxk 34 (nxk 33 d))]) := by
  have g1 := good_of (signs_ok D)
  have g2 := good_of (places_ok g1.1)
  have g3 := good_of (bounds_ok g2.1)
  have q1 := nt_ev (g := 56) (rw := rw) (t := t) rfl g1.2
  have q2 := nt_ev (g := 57) (rw := rw) (t := t) rfl g2.2
  have q3 := nt_ev (g := 58) (rw := rw) (t := t) rfl g3.2
  exact ⟨g3.1, ex_skip (or3_no q1 q2 q3)⟩
theorem next_two {d : AObj} (D : DealOk d) (rw t : Option AV) : DealOk (nxk 37 (nxk 36 d)) ∧ (nt 59).ev GlT (ac 59) (lF rw t) [d] = some (.bool false, [nxk 36 d]) ∧ (nt 60).ev GlT (ac 59) (lF rw t) [nxk 36 d] = some (.bool false, [nxk 37 (nxk 36 d)]) := by
  have g1 := good_of (groups_ok D)
  have g2 := good_of (choices_ok g1.1)
  exact ⟨g2.1, nt_ev rfl g1.2, nt_ev rfl g2.2⟩
end
section
set_option Elab.async false
set_option autoImplicit false
set_option linter.unusedVariables false
set_option linter.unusedSectionVars false
set_option maxRecDepth 100000
set_option backward.match.sparseCases false
set_option tactic.hygienic false
set_option genSizeOf false
set_option genInjectivity false
open PySem PySem.W PyProof.Rows PySem.Calls
noncomputable def mLaw (F : AF) : AM (Flo × AF) := fun H => match H with
  | [d] => @ite _ (DealOk d ∧ ∃ rw t, F = lF rw t) (Classical.propDecidable _) (some ((.next, F), [nx5 (nxk 37 (nxk 36 (nxk 35 (nxk 34 (nxk 33 d)))))])) none
  | _ => none
theorem mLaw_some {F F' : AF} {H H' : AH} {fl : Flo} (e : mLaw F H = some ((fl, F'), H')) : ∃ d rw t, H = [d] ∧ DealOk d ∧ F = lF rw t ∧ fl = .next ∧ F' = F ∧ H' = [nx5 (nxk 37 (nxk 36 (nxk 35 (nxk 34 (nxk 33 d)))))] := by
  match H, e with
  | [], e => cases e
  | _ :: _ :: _, e => cases e
  | [d], e =>
    by_cases q : DealOk d ∧ ∃ rw t, F = lF rw t
    · have e := (if_pos q).symm.trans e
      cases e
      obtain ⟨D, rw, t, hF⟩ := q
      exact ⟨d, rw, t, rfl, D, hF, rfl, rfl, rfl⟩
    · have e := (if_neg q).symm.trans e
      cases e
section
variable {K : Frag} (FK : FragOk K) {prog : Program} {w : World} {h : Heap} {mb : Str → Option Value} (X : K.In h) (nb : h.Ns builtinsNs mb) (hb : ∀ x : Str, x ≠ "__name__" → mb x = bootBuiltins x) (nl : h.NoLimit)
include FK X nb hb nl
variable {A : Around} {T : Tabs} {sc : Scope} {ns : List (List Nat)} {env : Env}
theorem second_ok (R : Room A 59) (y : Hyp (theBase prog w h K mb) A (ac 59)) (hfr : A.frames = some [env]) (hf : env.frame = some env.locals) (hk : env.scope.kind = .function) (nc : ∀ n ∈ ns, isKind sc (toS n) .cell = false ∧ isKind sc (toS n) .free = false) {x : Stmt} (hx : L2'.mt T sc ns x = true)
    {s : Shared} {G : St} {d : AObj} {rw t : Option AV} (D : DealOk d) (P : FrOK (theBase prog w h K mb) T sc ns env (lF rw t) G s.heap) (I : Inv (theBase prog w h K mb) G [d] s.heap)
    {Q : Flow → Shared → Prop} {E : Value → Shared → Prop} (hQ : ∀ G' h' tk', Step (theBase prog w h K mb) (Own sc env) G s.heap G' h' → Inv (theBase prog w h K mb) G' [nx5 (nxk 37 (nxk 36 d))] h' → FrOK (theBase prog w h K mb) T sc ns env (lF rw t) G' h' → Q .next { s with heap := h', toks := tk' }) :
    wpAny (model prog w) A (exec x env) Q E s := by
  obtain ⟨D2, e1, e2⟩ := next_two D rw t
  obtain ⟨c, a, b, p, rfl, hx⟩ := stIf_i (f := _) hx
  have hx := and_i hx
  have gx := and_i hx.1
  cases on0_i (show on0 b = true from hx.2)
  obtain ⟨o, xs, bp, rfl, hc⟩ := onBoolOp_i (f := _) gx.1
  have hc := and_i hc
  have gc := and_i hc.1
  have eo := of_decide_eq_true gc.1
  subst eo
  refine onC_e (f := _) gc.2 fun z1 r1 k1 => ?_
  have k1 := and_i k1
  refine onC_e (f := _) k1.2 fun z2 r2 k2 => ?_
  have k2 := and_i k2
  refine onC_e (f := _) k2.2 fun z3 r3 k3 => ?_
  have k3 := and_i k3
  cases on0_i (show on0 r3 = true from k3.2)
  refine wpAny_If (wpAny_isTrue_BoolOp (wpAny_allTrue_Or_cons (((nt 59).ok y (and_i k1.1).2 env _).2 s G [d] false _ P I (tst_of e1) _ _ fun v G1 h1 t1 s1 I1 P1 r1 => ?_)))
  subst r1
  refine wpAny_allTrue_Or_cons (((nt 60).ok y (and_i k2.1).2 env _).2 _ G1 _ false _ P1 I1 (tst_of e2) _ _ fun v G2 h2 t2 s2 I2 P2 r2 => ?_)
  subst r2
  obtain ⟨o3, z3, p3, rfl, g3⟩ := onUnaryOp_i (f := _) (and_i k3.1).2
  have g3 := and_i g3
  have eo := of_decide_eq_true g3.1
  subst eo
  obtain ⟨gx', xs', ks', cp, rfl, hc'⟩ := onCall_i (f := _) g3.2
  have j := and_i (and_i hc').1
  have j3 := j.2
  have j := and_i j.1
  have j2 := j.2
  have j := and_i j.1
  cases on0_i j.1
  have pr := pairE y env (lF rw t) j2
  obtain ⟨cn, np, rfl, _⟩ := onName_i (f := _) j3
  refine wpAny_allTrue_Or_cons (wpAny_isTrue_Not (wpAny_isTrue_value (wpAny_Call_NameR (((n_gl 61).ok y j.2 env (lF rw t)).1 _ G2 _ (.fn 38) _ P2 I2 rfl _ _ fun u G3 h3 t3 s3 I3 P3 r3 => callWith_any (noStar_trees pr.noStar).1 ?_)) rfl))
  refine pr.evL (p := cp) _ G3 _ [.obj 0] _ P3 I3 rfl _ _ fun us G4 h4 t4 s4 I4 P4 r4 => ?_
  refine via fun R_ k_ => ?_
  obtain ⟨v, vs, ev, rv, r5⟩ := r4
  refine k_ ?_
  cases (show vs = [] from r5)
  subst ev
  rw [show u = .ref 374 from r3]
  refine steps_call (s := { s with heap := h4, toks := t4 }) FK X nb hb nl R hfr D2 I4 rv (P4.frs hf (fun q_ m => nomatch m)) fun G5 h5 t5 D5 s5 I5 off up => ?_
  have P5 := P4.looked s5 (off _ (.head _)) (fun o e n => up _ (.head _) o e n) nc
  refine wpAny_truthy_bool (wpAny_allTrue_Or_nil (wpAny_execs_nil ?_))
  have s04 := s1.trans (s2.trans (s3.trans s4))
  refine hQ G5 h5 t5 (s04.pure.trans (s5.weak fun b q => ?_)) I5 P5
  rcases List.mem_cons.mp q with q | q
  · exact .inl q
  · cases q
theorem body_ok (R : Room A 59) (y : Hyp (theBase prog w h K mb) A (ac 59)) (hfr : A.frames = some [env]) (hf : env.frame = some env.locals) (hk : env.scope.kind = .function) (nc : ∀ n ∈ ns, isKind sc (toS n) .cell = false ∧ isKind sc (toS n) .free = false) {xs : List Stmt} (hx : mSs T sc ns [L1', L2'] xs = true) :
    ExS (theBase prog w h K mb) A T sc ns env (execs xs env) mLaw := fun F s G H fl F' H' P I eq Q E hQ => by
  obtain ⟨d, rw, t, rfl, D, rfl, rfl, rfl, rfl⟩ := mLaw_some eq
  refine onC_e (f := _) hx fun x1 r1 k1 => ?_
  have k1 := and_i k1
  refine onC_e (f := _) k1.2 fun x2 r2 k2 => ?_
  have k2 := and_i k2
  cases on0_i (show on0 r2 = true from k2.2)
  obtain ⟨D1, e1⟩ := first_three D rw t
  refine wpAny_execs_cons (L1'.ok y 1000 k1.1 env hk _ s G [d] .next _ _ P I e1 _ _ fun f G1 h1 t1 s1 I1 P1 r1 => ?_)
  cases f with
  | next =>
    refine wpAny_execs_cons (second_ok FK X nb hb nl R y hfr hf hk nc k2.1 D1 P1 I1 fun G2 h2 t2 s2 I2 P2 => wpAny_execs_nil ?_)
    exact hQ .next G2 h2 t2 (s1.trans s2) I2 P2 trivial
  | _ => exact r1.elim
end
end
section
set_option Elab.async false
set_option autoImplicit false
set_option linter.unusedVariables false
set_option linter.unusedSectionVars false
set_option maxRecDepth 100000
set_option backward.match.sparseCases false
set_option tactic.hygienic false
set_option genSizeOf false
set_option genInjectivity false
open PySem PySem.W PyProof.Rows PySem.Calls
noncomputable abbrev after (d : AObj) : AObj := nx5 (nxk 37 (nxk 36 (nxk 35 (nxk 34 (nxk 33 d)))))
theorem after_ok {d : AObj} (D : DealOk d) : DealOk (after d) := by
  have D1 := (first_three D none none).1
  have D2 := (next_two D1 none none).1
  obtain ⟨_, _, D3, _⟩ := draw5 D2
  exact D3
theorem mLaw_eq {d : AObj} (D : DealOk d) (rw t : Option AV) : mLaw (lF rw t) [d] = some ((.next, lF rw t), [after d]) := if_pos ⟨D, rw, t, rfl⟩
noncomputable abbrev lT : AV → AF → AM (Flo × AF) := fun x F => abind ((t_var 2 false).st GlT (ac 59) x F) fun F' => mLaw F'
theorem turn_eq {d : AObj} (D : DealOk d) (rw t : Option AV) (x : AV) : lT x (lF rw t) [d] = some ((.next, lF rw (some x)), [after d]) := by
  have q : (t_var 2 false).st GlT (ac 59) x (lF rw t) [d] = some (lF rw (some x), [d]) := rfl
  show abind ((t_var 2 false).st GlT (ac 59) x (lF rw t)) (fun F' => mLaw F') [d] = _
  rw [abind_eq q]; exact mLaw_eq D rw (some x)
theorem both_eq {d : AObj} (D : DealOk d) (rw : Option AV) : abind ((i_range1 (n_int 2)).sr GlT (ac 59) (lF rw none)) (fun xs => afor lT xs (lF rw none)) [d] = some ((.next, lF rw (some (.int 1))), [after (after d)]) := by
  have q : (i_range1 (n_int 2)).sr GlT (ac 59) (lF rw none) [d] = some ([.int 0, .int 1], [d]) := rfl
  have q1 := turn_eq D rw none (.int 0)
  have q2 := turn_eq (after_ok D) rw (some (.int 0)) (.int 1)
  rw [abind_eq q]
  show abind (lT (.int 0) (lF rw none)) (fun p => athen (afor lT [.int 1]) p) [d] = _
  rw [abind_eq q1]
  show abind (lT (.int 1) (lF rw (some (.int 0)))) (fun p => athen (afor lT []) p) [after d] = _
  rw [abind_eq q2]; rfl
section
variable {K : Frag} (FK : FragOk K) {prog : Program} {w : World} {h : Heap} {mb : Str → Option Value} (X : K.In h) (nb : h.Ns builtinsNs mb) (hb : ∀ x : Str, x ≠ "__name__" → mb x = bootBuiltins x) (nl : h.NoLimit)
include FK X nb hb nl
theorem law_run {xs : List Int} {vs : List Value} {a : Addr} (hL : h.IsList a vs.toArray) (hI : IntsAre vs xs) (hx : xs.length ≤ 63) {s : Shared} (hs : s.heap = h) {Q : Value → Shared → Prop} {E : Value → Shared → Prop} (hQ : ∀ h' tk, (∀ b o, h.get? b = some o → h'.get? b = some o) → Q (.bool true) { s with heap := h', toks := tk }) :
    wpAny (model prog w) callerA (call (.ref 381) [.ref a]) Q E s := by
  subst hs
  have R : Room callerA 60 := ⟨by show 1 + claimMargin + 60 < recursionLimit; have : claimMargin + 1 + 600 < recursionLimit := by decide
                                  omega, by show 4 + 8 * 60 + 8 < cLine; decide, rfl⟩
  refine via fun R_ k_ => ?_
  obtain ⟨o, ho, hc, k, hd⟩ := hL
  refine k_ ?_
  let G : St := ⟨s.heap.get?, []⟩
  have I : Inv (theBase prog w s.heap K mb) G [] s.heap := ⟨fun q_ q_ e => e, fun q_ q_ e q_ => e, rfl, List.Pairwise.nil, (fun q_ m => nomatch m), (fun q_ q_ q_ e => nomatch e)⟩
  have rs : RepL (theBase prog w s.heap K mb) G [.row (xs.map .int)] [.ref a] := ⟨_, _, rfl, ⟨a, vs.toArray, k, rfl, ⟨o, ho, hc, hd⟩, row_rep hI⟩, rfl⟩
  have O := base_ok (prog := prog) (w := w) FK X nb hb nl
  obtain ⟨fd, body, C, hbody, hm, bind, nc⟩ := fnL_i (B := theBase prog w s.heap K mb) (k := 39) (f := f_law) X (by
    have := List.all_eq_true.mp FK.fns 39 (by decide)
    obtain ⟨f, hf, q⟩ := onS_i ((Bool.or_eq_true _ _).mp this |>.resolve_left (by decide))
    cases hf; exact q) FK.lc39
  obtain ⟨d, D, ed⟩ := deal_ok xs hx 58
  refine enter_top O C hbody (args := [.row (xs.map .int)]) (F := [some (.row (xs.map .int)), none, none]) (ar := ⟨[.ref a], []⟩) rfl I rs (bind s [.ref a] rfl) (by have := R.depth; omega) fun env G1 h1 tk1 hsc hf fresh st1 I1 P1 => ?_
  have R' := room_deeper (n := 59) R env
  have y := hyp_of (prog := prog) (w := w) FK X nb hb nl R'
  have hfr : (callerA.deeper env).frames = some [env] := Around.frames_deeper (env := env) rfl
  have hk : env.scope.kind = .function := P1.kind
  refine onC_e (f := _) hm fun x1 xs1 hm1 => ?_
  have hm1 := and_i hm1
  refine onC_e (f := _) hm1.2 fun x2 xs2 hm2 => ?_
  have hm2 := and_i hm2
  refine onC_e (f := _) hm2.2 fun x3 xs3 hm3 => ?_
  have hm3 := and_i hm3
  have eq1 : (s_assign (t_var 1 false) (n_call (n_gl 52) [(n_var 0)])).ex GlT (ac 59) 1000 [some (.row (xs.map .int)), none, none] [] = some ((.next, lF (some (.row (xs.map .int))) none), [d]) :=
    ex_assign_ (i := 1) (ev_call_ (k := 29) rfl (evs_cons (x := .row (xs.map .int)) (H1 := []) rfl evs_nil) ed) (Nat.lt_of_sub_ne_zero (by show (2 : Nat) ≠ 0; decide))
  refine wpAny_execs_cons ((s_assign (t_var 1 false) (n_call (n_gl 52) [(n_var 0)])).ok y 1000 hm1.1 env hk _ _ G1 [] .next _ [d] P1 I1 eq1 _ _ fun f G2 h2 tk2 s2 I2 P2 r2 => ?_)
  cases f with
  | next =>
    obtain ⟨tg, it, u, v, p, rfl, q⟩ := stFor_i (f := _) hm2.1
    have q := and_i q
    have q5 := q.2
    have q := and_i q.1
    have q4 := q.2
    have q := and_i q.1
    have q3 := q.2
    have q := and_i q.1
    have q2 := q.2
    have q := and_i q.1
    cases on0_i q.1
    refine wpAny_execs_cons (ex_for y.hA q4 (tg_i q5) (fun F => (i_range1 (n_int 2)).ok y q2 env F) ((t_var 2 false).ok y q.2 env) (body_ok FK X nb hb nl R' y hfr hf hk nc q3) _ _ G2 [d] .next _ _ P2 I2 (both_eq D _) _ _ fun f G3 h3 tk3 s3 I3 P3 r3 => ?_)
    cases f with
    | next =>
      refine wpAny_execs_cons ((s_ret (n_bool true)).ok y 1000 hm3.1 env hk _ _ G3 _ (.ret (.bool true)) _ _ P3 I3 rfl _ _ fun f G4 h4 tk4 s4 I4 P4 r4 => ?_)
      cases f with
      | ret u =>
        rw [show u = .bool true from r4]
        exact hQ h4 tk4 fun b o e => I4.sub _ _ (s4.mono _ _ (s3.mono _ _ (s2.mono _ _ (st1.mono _ _ e))))
      | _ => exact r4.elim
    | _ => exact r3.elim
  | _ => exact r2.elim
end
open PySem.W PyProof.Rows PySem.Calls in
theorem fin_law {K : Frag} {prog : Program} {w : World} {mg mb : Str → Option Value} {c : ClaimW} {cl : Str → Option Addr} {mean : ExcName → Option Value} {args : List WData} {s : Shared} (FK : FragOk K) (X : K.In s.heap) (ng : s.heap.Ns mainGlobals mg) (nb : s.heap.Ns builtinsNs mb)
    (hb : ∀ x : Str, x ≠ "__name__" → mb x = bootBuiltins x) (nl : s.heap.NoLimit) {n : Str} (hn : n = toS [108, 97, 119]) {fa : Addr} (e : mg n = some (.ref fa)) {a : Addr} {vs : List Value} {xs : List Int} (hL : s.heap.IsList a vs.toArray) (hI : IntsAre vs xs) (hl : xs.length ≤ 63)
    (hg : s.gens = #[]) (hr : ∀ k, c.raises args k = false) (hp : c.post args (.bool true) args = true) {E : Value → Shared → Prop} :
    wpAny (model prog w) callerA (call (.ref fa) [.ref a]) (fun v s' => GoodWG c cl mean args s (.ok (.ret v)) s') E s := by
  have q := fa_eq FK X ng hn e
  subst q
  refine law_run FK X nb hb nl hL hI hl rfl fun h' tk k => ?_
  exact ⟨.inl ⟨.bool true, .bool true, [], rfl, hr, .bool true, hp, fun q_ => ⟨List.nodup_nil, fun q_ m => nomatch m⟩⟩, .of_keep k, rfl, .of_eq hg⟩
end
end Mine
end
theorem Mine.hd.tw2867327485932766208 : True := trivial
theorem Mine.hd.tw4971549296188076032 : True := trivial
theorem Mine.hd.tw8735263284916673568 : True := trivial
theorem Mine.hd.tw1800889605409440832 : True := trivial
theorem Mine.hd.tw6276725880618359904 : True := trivial
theorem Mine.hd.tw16412773359747925120 : True := trivial
theorem Mine.hd.tw4706079058837389440 : True := trivial
theorem Mine.hd.tw6830512106363814048 : True := trivial
theorem Mine.hd.tw10458740792067480800 : True := trivial
theorem Mine.hd.tw17950676927832955104 : True := trivial
theorem Mine.hd.tw17387473266821786944 : True := trivial
theorem Mine.hd.tw15347494238783688032 : True := trivial
theorem Mine.hd.tw7023726343779634624 : True := trivial
theorem Mine.hd.tw4494801613693538912 : True := trivial
theorem Mine.hd.tw1359830224848277088 : True := trivial
theorem Mine.hd.tw15344866539931968096 : True := trivial
theorem Mine.hd.tw16154546982801380032 : True := trivial
theorem Mine.hd.tw17183224562656869120 : True := trivial
theorem Mine.hd.tw17252143746492648416 : True := trivial
theorem Mine.hd.tw3650960628870763488 : True := trivial
theorem Mine.hd.tw10752148897807903841 : True := trivial
theorem Mine.hd.tw10403243965636340961 : True := trivial
theorem Mine.hd.tw16037735763661986305 : True := trivial
theorem Mine.hd.tw18343703819029505601 : True := trivial
theorem Mine.hd.tw10678649693572172417 : True := trivial
theorem Mine.hd.tw5343241284826551009 : True := trivial
theorem Mine.hd.tw7914949630228597729 : True := trivial
theorem Mine.hd.tw11210553801493137410 : True := trivial
theorem Mine.hd.tw4272726840584523970 : True := trivial
theorem Mine.hd.tw9430268157657104642 : True := trivial
theorem Mine.hd.tw13919464512627920130 : True := trivial
theorem Mine.hd.tw12936449754285732098 : True := trivial
theorem Mine.hd.tw4702841417184801058 : True := trivial
theorem Mine.hd.tw758273949599710562 : True := trivial
theorem Mine.hd.tw12271959270614036898 : True := trivial
theorem Mine.hd.tw5781342201191254626 : True := trivial
theorem Mine.hd.tw3919010098100093602 : True := trivial
theorem Mine.hd.tw5190246844813560578 : True := trivial
theorem Mine.hd.tw9960721518486171458 : True := trivial
theorem Mine.hd.tw18245042118932799458 : True := trivial
theorem Mine.hd.tw8228950375871286339 : True := trivial
theorem Mine.hd.tw1882180444382439491 : True := trivial
theorem Mine.hd.tw16904818350239718627 : True := trivial
theorem Mine.hd.tw18322514126500204803 : True := trivial
theorem Mine.hd.tw3229955645248102723 : True := trivial
theorem Mine.hd.tw5174551420813472067 : True := trivial
theorem Mine.hd.tw11754176132448286083 : True := trivial
theorem Mine.hd.tw6411954120941647267 : True := trivial
theorem Mine.hd.tw1760603350576429475 : True := trivial
theorem Mine.hd.tw13368278939475635651 : True := trivial
theorem Mine.hd.tw17087091549796120035 : True := trivial
theorem Mine.hd.tw11513968764499736323 : True := trivial
theorem Mine.hd.tw11631947586910100387 : True := trivial
theorem Mine.hd.tw18293851220164018083 : True := trivial
theorem Mine.hd.tw16477043939570097188 : True := trivial
theorem Mine.hd.tw6060742912462422084 : True := trivial
theorem Mine.hd.tw6407587892757256292 : True := trivial
theorem Mine.hd.tw5278057926702712004 : True := trivial
theorem Mine.hd.tw14892549342360969540 : True := trivial
theorem Mine.hd.tw13855946660403688772 : True := trivial
theorem Mine.hd.tw3219085151875037572 : True := trivial
theorem Mine.hd.tw11465210709893060100 : True := trivial
theorem Mine.hd.tw10949625832625181284 : True := trivial
theorem Mine.hd.tw2323474266016966308 : True := trivial
theorem Mine.hd.tw5732804406350252772 : True := trivial
theorem Mine.hd.tw1241404454085649124 : True := trivial
theorem Mine.hd.tw18241275227582772068 : True := trivial
theorem Mine.hd.tw8458067239894703972 : True := trivial
theorem Mine.hd.tw3789350110615891812 : True := trivial
theorem Mine.hd.tw8356816923877370021 : True := trivial
theorem Mine.hd.tw7355570028127101125 : True := trivial
theorem Mine.hd.tw6305734824756694309 : True := trivial
theorem Mine.hd.tw10258999931320997221 : True := trivial
theorem Mine.hd.tw11893437276241958245 : True := trivial
theorem Mine.hd.tw12399718760709695909 : True := trivial
theorem Mine.hd.tw1847840615245081061 : True := trivial
theorem Mine.hd.tw15790720579355451973 : True := trivial
theorem Mine.hd.tw11251137523995926341 : True := trivial
theorem Mine.hd.tw14260913966351254405 : True := trivial
theorem Mine.hd.tw6555240042291301478 : True := trivial
theorem Mine.hd.tw13181700845877081190 : True := trivial
theorem Mine.hd.tw8268277133935991078 : True := trivial
theorem Mine.hd.tw16211521421427940678 : True := trivial
theorem Mine.hd.tw212345690472687942 : True := trivial
theorem Mine.hd.tw2321503477829929318 : True := trivial
theorem Mine.hd.tw991583007596301734 : True := trivial
theorem Mine.hd.tw2386827423013361158 : True := trivial
theorem Mine.hd.tw3795277891434052102 : True := trivial
theorem Mine.hd.tw10424393626065333798 : True := trivial
theorem Mine.hd.tw17258206423299326598 : True := trivial
theorem Mine.hd.tw2195365466389143174 : True := trivial
theorem Mine.hd.tw13903934854276604550 : True := trivial
theorem Mine.hd.tw1865391376527767206 : True := trivial
theorem Mine.hd.tw4993660671451451078 : True := trivial
theorem Mine.hd.tw1506431575118746342 : True := trivial
theorem Mine.hd.tw8990313861142287110 : True := trivial
theorem Mine.hd.tw9386895884608548742 : True := trivial
theorem Mine.hd.tw8934143017859847078 : True := trivial
theorem Mine.hd.tw1589133516308662214 : True := trivial
theorem Mine.hd.tw5978321128707920903 : True := trivial
theorem Mine.hd.tw15043168886218598503 : True := trivial
theorem Mine.hd.tw4928871151566383271 : True := trivial
theorem Mine.hd.tw17893044597097874663 : True := trivial
theorem Mine.hd.tw15683763237869141255 : True := trivial
theorem Mine.hd.tw17062030032774818151 : True := trivial
theorem Mine.hd.tw8977307856219701671 : True := trivial
theorem Mine.hd.tw3109861748172591687 : True := trivial
theorem Mine.hd.tw9557236495431379559 : True := trivial
theorem Mine.hd.tw12901994302517312135 : True := trivial
theorem Mine.hd.tw11660266114150955751 : True := trivial
theorem Mine.hd.tw7068711184596962023 : True := trivial
theorem Mine.hd.tw8960069828448710407 : True := trivial
theorem Mine.hd.tw17672654358674132775 : True := trivial
theorem Mine.hd.tw7028611270464810887 : True := trivial
theorem Mine.hd.tw701787995468756871 : True := trivial
theorem Mine.hd.tw8545014587354053640 : True := trivial
theorem Mine.hd.tw8671608845466749128 : True := trivial
theorem Mine.hd.tw10246146449241189800 : True := trivial
theorem Mine.hd.tw16920754564084929960 : True := trivial
theorem Mine.hd.tw12949589719889679912 : True := trivial
theorem Mine.hd.tw14457593812595234344 : True := trivial
theorem Mine.hd.tw6038821095411175016 : True := trivial
theorem Mine.hd.tw4297731678662094536 : True := trivial
theorem Mine.hd.tw9724358948501437256 : True := trivial
theorem Mine.hd.tw17975533764899295144 : True := trivial
theorem Mine.hd.tw4870687313549177768 : True := trivial
theorem Mine.hd.tw6900783270533439432 : True := trivial
theorem Mine.hd.tw3259873300814134281 : True := trivial
theorem Mine.hd.tw189712035060473897 : True := trivial
theorem Mine.hd.tw8959176491354863721 : True := trivial
theorem Mine.hd.tw18166333605607142505 : True := trivial
theorem Mine.hd.tw4225703048834024713 : True := trivial
theorem Mine.hd.tw1129884963351977449 : True := trivial
theorem Mine.hd.tw3350844169311001129 : True := trivial
theorem Mine.hd.tw9566141503761928105 : True := trivial
theorem Mine.hd.tw5148922909946612681 : True := trivial
theorem Mine.hd.tw3915529967508079626 : True := trivial
theorem Mine.hd.tw13217225542625558698 : True := trivial
theorem Mine.hd.tw7120233287515763914 : True := trivial
theorem Mine.hd.tw17447410573909459338 : True := trivial
theorem Mine.hd.tw10603584201595350602 : True := trivial
theorem Mine.hd.tw6528754448969337418 : True := trivial
theorem Mine.hd.tw4360684699965382250 : True := trivial
theorem Mine.hd.tw10170382586518783626 : True := trivial
theorem Mine.hd.tw12487502673411948298 : True := trivial
theorem Mine.hd.tw4478964076566166474 : True := trivial
theorem Mine.hd.tw11128854368766332075 : True := trivial
theorem Mine.hd.tw13277076834127875243 : True := trivial
theorem Mine.hd.tw3443669649825651883 : True := trivial
theorem Mine.hd.tw11917015161858427179 : True := trivial
theorem Mine.hd.tw9170477692918782315 : True := trivial
theorem Mine.hd.tw10030107230732127627 : True := trivial
theorem Mine.hd.tw17054507655720011243 : True := trivial
theorem Mine.hd.tw9741134391959003819 : True := trivial
theorem Mine.hd.tw15089522573102190283 : True := trivial
theorem Mine.hd.tw9120999728284197611 : True := trivial
theorem Mine.hd.tw10743916045514856203 : True := trivial
theorem Mine.hd.tw9748044761591592747 : True := trivial
theorem Mine.hd.tw8727321023445011275 : True := trivial
theorem Mine.hd.tw2999033326186475339 : True := trivial
theorem Mine.hd.tw8716120427605611371 : True := trivial
theorem Mine.hd.tw6196171512934965099 : True := trivial
theorem Mine.hd.tw978945382295711627 : True := trivial
theorem Mine.hd.tw6264232113106981867 : True := trivial
theorem Mine.hd.tw4315991029959535628 : True := trivial
theorem Mine.hd.tw6394381022753523788 : True := trivial
theorem Mine.hd.tw1836080755315867724 : True := trivial
theorem Mine.hd.tw12647368939536790636 : True := trivial
theorem Mine.hd.tw16299908979028503884 : True := trivial
theorem Mine.hd.tw12092154237167983948 : True := trivial
theorem Mine.hd.tw17711083657039698284 : True := trivial
theorem Mine.hd.tw5130813555471234732 : True := trivial
theorem Mine.hd.tw17948085552500728524 : True := trivial
theorem Mine.hd.tw18185175575083235020 : True := trivial
theorem Mine.hd.tw12588582704262371052 : True := trivial
theorem Mine.hd.tw15368132723985388332 : True := trivial
theorem Mine.hd.tw6819123309680001836 : True := trivial
theorem Mine.hd.tw12023040214023829324 : True := trivial
theorem Mine.hd.tw16171809288044610508 : True := trivial
theorem Mine.hd.tw15837987909243819085 : True := trivial
theorem Mine.hd.tw1409312971732116557 : True := trivial
theorem Mine.hd.tw1013155817946168525 : True := trivial
theorem Mine.hd.tw16345102440705955213 : True := trivial
theorem Mine.hd.tw8457440626546761165 : True := trivial
theorem Mine.hd.tw4377701919642642989 : True := trivial
theorem Mine.hd.tw16828841361933241965 : True := trivial
theorem Mine.hd.tw5036846961687405229 : True := trivial
theorem Mine.hd.tw16240987189780228909 : True := trivial
theorem Mine.hd.tw17606422857730326317 : True := trivial
theorem Mine.hd.tw10614716105012338702 : True := trivial
theorem Mine.hd.tw17311223219408574766 : True := trivial
theorem Mine.hd.tw3429492842335990350 : True := trivial
theorem Mine.hd.tw16722109127936396110 : True := trivial
theorem Mine.hd.tw14553816603554493358 : True := trivial
theorem Mine.hd.tw9345929723534960622 : True := trivial
theorem Mine.hd.tw6082411064634330575 : True := trivial
theorem Mine.hd.tw3493717111155160527 : True := trivial
theorem Mine.hd.tw3759623122121258479 : True := trivial
theorem Mine.hd.tw12631932088317031055 : True := trivial
theorem Mine.hd.tw5987830557187376847 : True := trivial
theorem Mine.hd.tw6990203504111849199 : True := trivial
theorem Mine.hd.tw2101469004524951375 : True := trivial
theorem Mine.hd.tw11319892378374348655 : True := trivial
theorem Mine.hd.tw9657781627882305391 : True := trivial
theorem Mine.hd.tw16649331688326792143 : True := trivial
theorem Mine.hd.tw10111801491309104144 : True := trivial
theorem Mine.hd.tw402640490398009360 : True := trivial
theorem Mine.hd.tw16011055738799735888 : True := trivial
theorem Mine.hd.tw10216474801634566288 : True := trivial
theorem Mine.hd.tw16853341256802265648 : True := trivial
theorem Mine.hd.tw4856431653887292112 : True := trivial
theorem Mine.hd.tw13518370688599389936 : True := trivial
theorem Mine.hd.tw15595854959937240912 : True := trivial
theorem Mine.hd.tw12614811148066621264 : True := trivial
theorem Mine.hd.tw2129695795049404400 : True := trivial
theorem Mine.hd.tw13790719812936386609 : True := trivial
theorem Mine.hd.tw17213754286329925777 : True := trivial
theorem Mine.hd.tw432457690288141553 : True := trivial
theorem Mine.hd.tw14705683404202351889 : True := trivial
theorem Mine.hd.tw9141302689577602353 : True := trivial
theorem Mine.hd.tw17903497710992402801 : True := trivial
theorem Mine.hd.tw16634568088961857937 : True := trivial
theorem Mine.hd.tw15852365999677673905 : True := trivial
theorem Mine.hd.tw16056359734778111409 : True := trivial
theorem Mine.hd.tw7082855905992002993 : True := trivial
theorem Mine.hd.tw13488888528670789105 : True := trivial
theorem Mine.hd.tw3828038474966422129 : True := trivial
theorem Mine.hd.tw12113243949977362033 : True := trivial
theorem Mine.hd.tw5961118342813265553 : True := trivial
theorem Mine.hd.tw8117029840178788049 : True := trivial
theorem Mine.hd.tw6545403380812914513 : True := trivial
theorem Mine.hd.tw8025032847418708242 : True := trivial
theorem Mine.hd.tw9641152695372364146 : True := trivial
theorem Mine.hd.tw15166520500009309586 : True := trivial
theorem Mine.hd.tw9499510787657705874 : True := trivial
theorem Mine.hd.tw7754304195085646258 : True := trivial
theorem Mine.hd.tw5366084841770067474 : True := trivial
theorem Mine.hd.tw2167537188350426706 : True := trivial
theorem Mine.hd.tw5282504435634884242 : True := trivial
theorem Mine.hd.tw1580110805410547442 : True := trivial
theorem Mine.hd.tw14560493823538711346 : True := trivial
theorem Mine.hd.tw6293948785866598258 : True := trivial
theorem Mine.hd.tw12629568148972539762 : True := trivial
theorem Mine.hd.tw7296583596125217682 : True := trivial
theorem Mine.hd.tw1097998534492414930 : True := trivial
theorem Mine.hd.tw8112040973832200146 : True := trivial
theorem Mine.hd.tw10601615944963115059 : True := trivial
theorem Mine.hd.tw5567388512258382067 : True := trivial
theorem Mine.hd.tw5657824000916062451 : True := trivial
theorem Mine.hd.tw7289634563603522867 : True := trivial
theorem Mine.hd.tw16945582573551092051 : True := trivial
theorem Mine.hd.tw1382963296337349011 : True := trivial
theorem Mine.hd.tw16432713993328977331 : True := trivial
theorem Mine.hd.tw5363564295841288755 : True := trivial
theorem Mine.hd.tw18103342009636024947 : True := trivial
theorem Mine.hd.tw4115565904173853331 : True := trivial
theorem Mine.hd.tw3008623586974134963 : True := trivial
theorem Mine.hd.tw16640546478005224243 : True := trivial
theorem Mine.hd.tw3930940297936929747 : True := trivial
theorem Mine.hd.tw13409441903868389331 : True := trivial
theorem Mine.hd.tw8789358453043137523 : True := trivial
theorem Mine.hd.tw4851647983119433812 : True := trivial
theorem Mine.hd.tw15529170255622000948 : True := trivial
theorem Mine.hd.tw6164396464334811476 : True := trivial
theorem Mine.hd.tw7540655947842036084 : True := trivial
theorem Mine.hd.tw6998783941825042932 : True := trivial
theorem Mine.hd.tw7366208706002141716 : True := trivial
theorem Mine.hd.tw4014540891139286612 : True := trivial
theorem Mine.hd.tw18293732401869909652 : True := trivial
theorem Mine.hd.tw1997569388931296116 : True := trivial
theorem Mine.hd.tw17542962492245011380 : True := trivial
theorem Mine.hd.tw1439246655266547700 : True := trivial
theorem Mine.hd.tw6598312636042714100 : True := trivial
theorem Mine.hd.tw11162318198679636149 : True := trivial
theorem Mine.hd.tw17703440808498902325 : True := trivial
theorem Mine.hd.tw13225837485096350037 : True := trivial
theorem Mine.hd.tw6442067068224118133 : True := trivial
theorem Mine.hd.tw14103535550066685397 : True := trivial
theorem Mine.hd.tw2608437505485318709 : True := trivial
theorem Mine.hd.tw17673860158736603733 : True := trivial
theorem Mine.hd.tw3571134770919094901 : True := trivial
theorem Mine.hd.tw12173100003817136821 : True := trivial
theorem Mine.hd.tw7494724483528729301 : True := trivial
theorem Mine.hd.tw15508949281206285077 : True := trivial
theorem Mine.hd.tw13609717118414637909 : True := trivial
theorem Mine.hd.tw13483081372092288885 : True := trivial
theorem Mine.hd.tw9427301549700849589 : True := trivial
theorem Mine.hd.tw6820862383352777685 : True := trivial
theorem Mine.hd.tw8343274005884668182 : True := trivial
theorem Mine.hd.tw1413172679324656950 : True := trivial
theorem Mine.hd.tw16473244170626142550 : True := trivial
theorem Mine.hd.tw3452082135128663414 : True := trivial
theorem Mine.hd.tw11213053971927718326 : True := trivial
theorem Mine.hd.tw7752767780024739350 : True := trivial
theorem Mine.hd.tw17420951861521290806 : True := trivial
theorem Mine.hd.tw1011335219593555734 : True := trivial
theorem Mine.hd.tw8428860471423672150 : True := trivial
theorem Mine.hd.tw6184460063843016694 : True := trivial
theorem Mine.hd.tw15367242080415987702 : True := trivial
theorem Mine.hd.tw15615537253650120727 : True := trivial
theorem Mine.hd.tw2216850387143573719 : True := trivial
theorem Mine.hd.tw16970440968685349367 : True := trivial
theorem Mine.hd.tw3442329435671937591 : True := trivial
theorem Mine.hd.tw13783031573616600631 : True := trivial
theorem Mine.hd.tw16064382804478563927 : True := trivial
theorem Mine.hd.tw17901807376057305687 : True := trivial
theorem Mine.hd.tw15416985209724490359 : True := trivial
theorem Mine.hd.tw17042694160793651959 : True := trivial
theorem Mine.hd.tw11402939732021071671 : True := trivial
theorem Mine.hd.tw307737655149646647 : True := trivial
theorem Mine.hd.tw3381375190539634487 : True := trivial
theorem Mine.hd.tw5875755337557543767 : True := trivial
theorem Mine.hd.tw10879034167726328663 : True := trivial
theorem Mine.hd.tw11389486352061984695 : True := trivial
theorem Mine.hd.tw11136197038861592535 : True := trivial
theorem Mine.hd.tw9345676750909349944 : True := trivial
theorem Mine.hd.tw18300207936620678264 : True := trivial
theorem Mine.hd.tw5562173858411828344 : True := trivial
theorem Mine.hd.tw17650839729002327288 : True := trivial
theorem Mine.hd.tw2274498078352570744 : True := trivial
theorem Mine.hd.tw15759970867653108152 : True := trivial
theorem Mine.hd.tw5511420028821071320 : True := trivial
theorem Mine.hd.tw13866372431405929976 : True := trivial
theorem Mine.hd.tw26425463804135960 : True := trivial
theorem Mine.hd.tw13267510147771200024 : True := trivial
theorem Mine.hd.tw14176624398918483544 : True := trivial
theorem Mine.hd.tw10727248033764811480 : True := trivial
theorem Mine.hd.tw4065347644161347641 : True := trivial
theorem Mine.hd.tw728884934406724761 : True := trivial
theorem Mine.hd.tw2603259988358896889 : True := trivial
theorem Mine.hd.tw18291419657060728153 : True := trivial
theorem Mine.hd.tw15411387601460861337 : True := trivial
theorem Mine.hd.tw1222794163293265305 : True := trivial
theorem Mine.hd.tw10784824025267889561 : True := trivial
theorem Mine.hd.tw11054480109507316185 : True := trivial
theorem Mine.hd.tw16772102934027710169 : True := trivial
theorem Mine.hd.tw4233181963852624665 : True := trivial
theorem Mine.hd.tw17574625026820762457 : True := trivial
theorem Mine.hd.tw17330945745186091897 : True := trivial
theorem Mine.hd.tw6982297934935202809 : True := trivial
theorem Mine.hd.tw17047115858639842297 : True := trivial
theorem Mine.hd.tw5902613922787404954 : True := trivial
theorem Mine.hd.tw11953376511379268794 : True := trivial
theorem Mine.hd.tw15673258824015622330 : True := trivial
theorem Mine.hd.tw541196102884509978 : True := trivial
theorem Mine.hd.tw12050417470231563642 : True := trivial
theorem Mine.hd.tw464777395874653626 : True := trivial
theorem Mine.hd.tw9421340871869096474 : True := trivial
theorem Mine.hd.tw1600037746751723098 : True := trivial
theorem Mine.hd.tw5373601922739893978 : True := trivial
theorem Mine.hd.tw14960593345356199642 : True := trivial
theorem Mine.hd.tw11232374478483605306 : True := trivial
theorem Mine.hd.tw11652457597714270106 : True := trivial
theorem Mine.hd.tw13372043803930879067 : True := trivial
theorem Mine.hd.tw11032806212648032379 : True := trivial
theorem Mine.hd.tw15103106377680225435 : True := trivial
theorem Mine.hd.tw14353793391729792155 : True := trivial
theorem Mine.hd.tw14478148883734587675 : True := trivial
theorem Mine.hd.tw6767318904944593275 : True := trivial
theorem Mine.hd.tw10024716035694756283 : True := trivial
theorem Mine.hd.tw13828106393651249627 : True := trivial
theorem Mine.hd.tw16007149819294483003 : True := trivial
theorem Mine.hd.tw2068664650715991707 : True := trivial
theorem Mine.hd.tw9719896912496429819 : True := trivial
theorem Mine.hd.tw17177331786930743035 : True := trivial
theorem Mine.hd.tw461538923250603899 : True := trivial
theorem Mine.hd.tw15642763164714097627 : True := trivial
theorem Mine.hd.tw13770079208771991547 : True := trivial
theorem Mine.hd.tw11319097763535126812 : True := trivial
theorem Mine.hd.tw395138700845864316 : True := trivial
theorem Mine.hd.tw15615420239508185596 : True := trivial
theorem Mine.hd.tw16091413853298234908 : True := trivial
theorem Mine.hd.tw2887051446865420828 : True := trivial
theorem Mine.hd.tw7085514621470718492 : True := trivial
theorem Mine.hd.tw3451239065008710300 : True := trivial
theorem Mine.hd.tw17599816209265215132 : True := trivial
theorem Mine.hd.tw2327210489368252092 : True := trivial
theorem Mine.hd.tw2252305205657439004 : True := trivial
theorem Mine.hd.tw4402725079659364252 : True := trivial
theorem Mine.hd.tw11117797201346649052 : True := trivial
theorem Mine.hd.tw18219297243305740317 : True := trivial
theorem Mine.hd.tw922143313871775805 : True := trivial
theorem Mine.hd.tw17714235663813219645 : True := trivial
theorem Mine.hd.tw6924109203229866365 : True := trivial
theorem Mine.hd.tw10792051664901133789 : True := trivial
theorem Mine.hd.tw5608270528595127837 : True := trivial
theorem Mine.hd.tw7763873220885509757 : True := trivial
theorem Mine.hd.tw3646829019195819677 : True := trivial
theorem Mine.hd.tw8226494294326810461 : True := trivial
theorem Mine.hd.tw221497870779424605 : True := trivial
theorem Mine.hd.tw15833661619300960221 : True := trivial
theorem Mine.hd.tw9277588360372424766 : True := trivial
theorem Mine.hd.tw3182187488490625086 : True := trivial
theorem Mine.hd.tw16194383521188589630 : True := trivial
theorem Mine.hd.tw11631869004601391166 : True := trivial
theorem Mine.hd.tw9673543361469618366 : True := trivial
theorem Mine.hd.tw6838551448383532254 : True := trivial
theorem Mine.hd.tw16259696140248634718 : True := trivial
theorem Mine.hd.tw4172343393113369950 : True := trivial
theorem Mine.hd.tw17681399029576232318 : True := trivial
theorem Mine.hd.tw13431754692932380062 : True := trivial
theorem Mine.hd.tw17901334829092211166 : True := trivial
theorem Mine.hd.tw17739348878880393726 : True := trivial
theorem Mine.hd.tw3480954088277226078 : True := trivial
theorem Mine.hd.tw7510230149288206974 : True := trivial
theorem Mine.hd.tw8047900516022102942 : True := trivial
theorem Mine.hd.tw14620637471214046174 : True := trivial
theorem Mine.hd.tw14955159897011116063 : True := trivial
theorem Mine.hd.tw6931407450589930559 : True := trivial
theorem Mine.hd.tw12070051907170230399 : True := trivial
theorem Mine.hd.tw3530705653197291679 : True := trivial
theorem Mine.hd.tw4478166936697009375 : True := trivial
theorem Mine.hd.tw14400467628812073631 : True := trivial
theorem Mine.hd.tw7519716089354478335 : True := trivial
theorem Mine.hd.tw8918986269194123381 : True := trivial
theorem Mine.hd.tw18409894008555364310 : True := trivial
namespace Mine
section
set_option Elab.async true
set_option tactic.hygienic false
set_option genSizeOf false
set_option genInjectivity false
open PySem PySem.W PySem.W.X PySem.W.ZRun PyProof.Rows
set_option maxRecDepth 100000 in
set_option maxHeartbeats 0 in
set_option pp.proofs false in
set_option pp.deepTerms false in
theorem hd : PySem.Challenge.rw_nt0364_02.Holds := by
  w_on
  o_law
  k_head
  (case hw => w_witness2)
  k_fill
  intro w s₀ s₁ mg mb G Y fa o pm cd doc dV kV ho hd hcd hD hmg hg args vals as hpre hlay hrd hwl hlo
  have KX := kIn_of Y
  clear Y
  refine Ground.open G ?_
  intro T B D TE TW
  clear B D TE TW G
  wrow_args hpre hlay hrd hwl hlo
  rename IntsAre _ _ => hI
  rename Heap.IsList _ _ _ => hL
  rename ¬ (_ < _) => hlen
  refine fin_law ?hF KX T.g T.b T.builtins T.nolimit (by kernel_rfl) hmg hL hI (by omega) hg (fun q_ => rfl) ?hp
  case hp => first | wrow_post | kernel_rfl
  exact ⟨by kernel_rfl, by kernel_rfl, by kernel_rfl, by kernel_rfl, by kernel_rfl, by kernel_rfl, by kernel_rfl, ⟨by kernel_rfl, fun S x u1 u2 u3 u4 => by kernel_rfl, fun S x => by kernel_rfl, fun S x u => by kernel_rfl⟩, by kernel_rfl, by kernel_rfl, by kernel_rfl, by kernel_rfl, by kernel_rfl, by kernel_rfl, by kernel_rfl, by kernel_rfl⟩
end
end Mine
theorem PySem.Challenge.cw_nt0364_02_holds : PySem.Challenge.rw_nt0364_02.Holds := by
  exact Mine.hd
