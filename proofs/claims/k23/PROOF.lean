import PyProof.Rows.All
import Wide.All
import OpenK.AllK
import Wide.FinOn
import HandS.ForMost
import HandS.ForExc
import HandS.WordsExc
import HandS.Wide
import HandS.IsInst
import HandS.Flow
import HandS.TupAny
import HandS.TupMul
import HandS.Style
import HandS.Lambda
import HandS.TryMany
import HandS.ExcField
import HandS.ExcIs
import HandS.Deep
import HandS.Text
import HandS.Gcd
import HandS.Zip
import PyProof.ReprReads
import PyProof.EqLayable
import PyProof.ReprRoads
import PyProof.CallFns
import KE.KRevSl
import PyProof.Draws
import PyProof.EnumFor
import PyProof.EnumMake
import PyProof.TupleIter
import HandS.Ends
import HandS.EndBits
import HandS.EndTab
import KE.KExcSuper
import HandS.ExcInit
import HandS.ExcOwn
import KE.KExcLine
import KE.RegKSuper
import PySem.Challenge.RW_allclocks_k23_errors_of_tables
set_option Elab.async false
set_option linter.all false
set_option maxRecDepth 100000
/-! Ev1: a plain evaluator of the language's everyday part, over data without a heap. -/
namespace Ev
open PySem L2

/-- who may write a list: its one holder; nobody; nobody, and it is not ours -/
inductive Mk where
  | own | fro | ext
  deriving DecidableEq

inductive D where
  | non | bl (b : Bool) | int (i : Int) | str (s : Str)
  | tup (ds : List D) | lst (m : Mk) (ds : List D)
  | dic (m : Mk) (ks : List Key) (ds : List D)
  | fn (x : Str) | ty (n : String)
  /-- a lambda that is handed on: what it will give, or raise -/
  | cloV (d : D) | cloX (c : Str) (ks : List Str) (ds : List D)

abbrev En := List (Option D)

inductive R (α : Type) where
  | ok (a : α)
  | err (c : Str) (fs : List (Str × D)) (e : En)
  | stuck

def R.bind {α β : Type} : R α → (α → R β) → R β
  | .ok a, f => f a
  | .err c fs e, _ => .err c fs e
  | .stuck, _ => .stuck

def ofO {α : Type} : Option α → R α
  | some a => .ok a
  | none => .stuck
/-- a value that stands by itself, or a road to what a name holds -/
inductive RV where
  | val (d : D)
  | han (i : Nat) (p : List Nat)

def owned : D → Bool
  | .lst .own _ => true
  | .dic .own _ _ => true
  | _ => false
/-- no part of it is owned -/
def plainL : List D → Bool
  | [] => true
  | d :: r => !owned d && plainL r
def plain : D → Bool
  | .lst .own ds => plainL ds
  | .dic .own _ ds => plainL ds
  | _ => true

mutual
def frz : D → D
  | .lst .own ds => .lst .fro (frzL ds)
  | .dic .own ks ds => .dic .fro ks (frzL ds)
  | d => d
def frzL : List D → List D
  | [] => []
  | d :: r => frz d :: frzL r
end

/-- the part of a datum at the end of a road -/
def part : D → List Nat → Option D
  | d, [] => some d
  | .lst .own ds, j :: p => match ds[j]? with | some d => part d p | none => none
  | _, _ => none
/-- the datum with another part there -/
def putPart : D → List Nat → D → Option D
  | _, [], n => some n
  | .lst .own ds, j :: p, n => match ds[j]? with
    | some d => (match putPart d p n with | some d' => some (.lst .own (ds.set j d')) | none => none)
    | none => none
  | _, _, _ => none

def getE (e : En) (i : Nat) : Option D := match e[i]? with | some (some d) => some d | _ => none
def content (e : En) : RV → Option D
  | .val d => some d
  | .han i p => match getE e i with | some d => part d p | none => none
/-- what is kept of a value: it stands by itself from then on -/
def take (e : En) : RV → R (D × En)
  | .val d => .ok (d, e)
  | .han i p => match getE e i with
    | some d => (match part d p with | some x => .ok (frz x, e.set i (some (frz d))) | none => .stuck)
    | none => .stuck
/-- .. and is never changed from then on -/
def takeF (e : En) (v : RV) : R (D × En) := (take e v).bind fun (d, e') => .ok (frz d, e')
/-- a road of one step or more is left -/
def sole (e : En) : RV → R (RV × En)
  | .han i (j :: p) => (take e (.han i (j :: p))).bind fun (d, e') => .ok (.val d, e')
  | v => .ok (v, e)

/-! ### data as the library's -/
mutual
def toPy : D → Option PyData
  | .non => some .none
  | .bl b => some (.bool b)
  | .int i => some (.int i)
  | .str s => some (.str s)
  | .tup ds => match toPyL ds with | some xs => some (.tuple xs) | none => none
  | .lst _ ds => match toPyL ds with | some xs => some (.list xs) | none => none
  | _ => none
def toPyL : List D → Option (List PyData)
  | [] => some []
  | d :: r => match toPy d, toPyL r with | some x, some xs => some (x :: xs) | _, _ => none
end

def eqD (a b : D) : Option Bool := match toPy a, toPy b with
  | some x, some y => if SeqAt.shaped x && SeqAt.shaped y then some (PyData.eqv x y) else none
  | _, _ => none

def big : Nat := 1000000
def mulOk (i j : Int) : Bool := decide (i.natAbs.log2 + j.natAbs.log2 < big)
def divOk (j : Int) : Bool := decide (0 < j) && decide (j.natAbs.log2 < 9000)
def powOk (i j : Int) : Bool := decide (0 ≤ j) && decide ((Builtin.Int.intBits i : Int) * j ≤ 2 ^ 27)
def lenOk (n : Nat) : Bool := decide (n ≤ sizeLine)

def binop (op : Operator) (a b : D) : Option D := match op, a, b with
  | .Add, .int i, .int j => some (.int (i + j))
  | .Sub, .int i, .int j => some (.int (i - j))
  | .Mult, .int i, .int j => if mulOk i j then some (.int (i * j)) else none
  | .FloorDiv, .int i, .int j => if divOk j then some (.int (i / j)) else none
  | .Mod, .int i, .int j => if 0 < j then some (.int (i % j)) else none
  | .Pow, .int i, .int j => if powOk i j then some (.int (i ^ j.toNat)) else none
  | .Add, .str a, .str b => if lenOk (a.length + b.length) then some (.str (a ++ b)) else none
  | .Add, .tup xs, .tup ys => if lenOk (xs.length + ys.length) then some (.tup (xs ++ ys)) else none
  | .Add, .lst m xs, .lst n ys => if decide (m ≠ .ext) && decide (n ≠ .ext) && plainL xs && plainL ys && lenOk (xs.length + ys.length) then some (.lst .own (xs ++ ys)) else none
  | .Mult, .tup xs, .int k => if decide (2 ≤ k) && decide (k ≤ 1000) && !xs.isEmpty && decide (xs.length ≤ 1000) then some (.tup (List.replicate k.toNat xs).flatten) else none
  | .Mult, .lst m xs, .int k => if decide (m ≠ .ext) && plainL xs && decide (0 ≤ k) && decide (k < 2 ^ 63) && lenOk (xs.length * k.toNat) then some (.lst .own (List.replicate k.toNat xs).flatten) else none
  | _, _, _ => none

def isNon : D → Bool
  | .non => true
  | _ => false
def flatD : D → Bool
  | .non => true
  | .bl _ => true
  | .int _ => true
  | .str _ => true
  | _ => false
/-- == of flat data -/
def eqF : D → D → Bool
  | .non, .non => true
  | .bl a, .bl b => a == b
  | .bl a, .int b => (if a then 1 else 0) == b
  | .int a, .bl b => a == (if b then 1 else 0)
  | .int a, .int b => a == b
  | .str a, .str b => a == b
  | _, _ => false
/-- x in y -/
def inD : D → D → Option Bool
  | x, .lst _ ds => match toPy x, toPyL ds with
    | some p, some qs => if SeqAt.shaped p && SeqAt.shaped (.list qs) then some (qs.any fun z => PyData.eqv z p) else none
    | _, _ => none
  | x, .tup ds => if flatD x && ds.all flatD then some (ds.any fun y => eqF y x) else none
  | .str a, .str z => match a.cps.toList with | [c] => some (decide (c ∈ z.cps.toList)) | _ => none
  | _, _ => none
def cmpop (op : CmpOp) (a b : D) : Option Bool := match op, a, b with
  | .Lt, .int i, .int j => some (decide (i < j))
  | .LtE, .int i, .int j => some (decide (i ≤ j))
  | .Gt, .int i, .int j => some (decide (j < i))
  | .GtE, .int i, .int j => some (decide (j ≤ i))
  | .Is, x, .non => some (isNon x)
  | .IsNot, x, .non => some (!isNon x)
  | .Eq, x, y => eqD x y
  | .NotEq, x, y => (eqD x y).map fun b => !b
  | .In, x, y => inD x y
  | .NotIn, x, y => (inD x y).map fun b => !b
  | _, _, _ => none

def truth : D → Option Bool
  | .non => some false
  | .bl b => some b
  | .int i => some (i != 0)
  | .tup ds => some (!ds.isEmpty)
  | .lst _ ds => some (!ds.isEmpty)
  | _ => none

/-! ### built-in functions -/
inductive Bl where
  | len | abs | max | min | int | isinstance | list | tuple | any | all | repr | sum | gcd

def bltOf0 (x : Str) : Option Bl :=
  if x == "len" then some .len else if x == "abs" then some .abs else if x == "max" then some .max else if x == "min" then some .min
  else if x == "int" then some .int else if x == "isinstance" then some .isinstance else if x == "list" then some .list else if x == "tuple" then some .tuple
  else if x == "any" then some .any else if x == "all" then some .all else if x == "repr" then some .repr else none
def bltOf (x : Str) : Option Bl := if x == "sum" then some .sum else bltOf0 x

/-- a datum's built-in type -/
def tyOf : D → Option String
  | .non => some "NoneType"
  | .bl _ => some "bool"
  | .int _ => some "int"
  | .str _ => some "str"
  | .tup _ => some "tuple"
  | .lst _ _ => some "list"
  | .dic _ _ _ => some "dict"
  | _ => none
def isinst (d : D) (t : String) : Option Bool := match tyOf d with
  | some a => (match kitB a t with | some b => some b | none => none)
  | none => none

def bools : List D → Option (List Bool)
  | [] => some []
  | .bl b :: r => (match bools r with | some bs => some (b :: bs) | none => none)
  | _ => none

def intsD : List D → Option (List Int)
  | [] => some []
  | .int b :: r => (match intsD r with | some bs => some (b :: bs) | none => none)
  | _ => none
def callB (b : Bl) (ds : List D) : Option D := match b, ds with
  | .len, [.tup xs] => some (.int xs.length)
  | .len, [.lst _ xs] => some (.int xs.length)
  | .len, [.str z] => if lenOk z.length then some (.int z.length) else none
  | .sum, [.lst _ xs] => (match intsD xs with | some ns => some (.int ns.sum) | none => none)
  | .gcd, [.int i, .int j] => some (.int ((Nat.gcd i.natAbs j.natAbs : Nat) : Int))
  | .abs, [.int i] => some (.int (if i < 0 then -i else i))
  | .max, [.int i, .int j] => some (.int (if j > i then j else i))
  | .min, [.int i, .int j] => some (.int (if j < i then j else i))
  | .int, [.int i] => some (.int i)
  | .int, [.bl b] => some (.int (if b then 1 else 0))
  | .isinstance, [d, .ty t] => (isinst d t).map fun b => .bl b
  | .list, [.tup xs] => some (.lst .own xs)
  | .list, [.lst _ xs] => if plainL xs then some (.lst .own xs) else none
  | .tuple, [.tup xs] => some (.tup xs)
  | .tuple, [.lst _ xs] => if plainL xs then some (.tup xs) else none
  | .any, [.lst _ xs] => (match bools xs with | some bs => some (.bl (bs.any id)) | none => none)
  | .all, [.lst _ xs] => (match bools xs with | some bs => some (.bl (bs.all id)) | none => none)
  | .repr, [d] => (match toPy d with
    | some p => if p.showable && decide (p.depth ≤ 64) && lenOk p.shown.length then some (.str p.shown) else none
    | none => none)
  | _, _ => none

/-- x[i]: the place that is meant -/
def item (xs : List D) (i : Int) : Option Nat := match ixN xs.length i with | some j => some j | none => none

end Ev

set_option Elab.async false
set_option linter.all false
set_option maxRecDepth 100000
/-! Ev2: the evaluator. -/
namespace Ev
open PySem L2

def slotOf : List Str → Str → Option Nat
  | [], _ => none
  | y :: r, x => if y == x then some 0 else (slotOf r x).map (· + 1)

/-- where one stands: the slots' names, the scope, the names that make cells here, the slots that are lent -/
structure Cn where
  N : List Str
  sc : Scope
  fnc : Str → Bool
  bor : List Nat
  /-- a lambda may have been handed here; lambdas may be made here; within a lambda -/
  clo : Bool := false
  lam : Bool := false
  inl : Bool := false
  /-- a lambda was handed to this def -/
  hc : Bool := false
def Cn.sub (G : Cn) (scope : Scope) : Cn := { G with sc := relS scope G.sc, fnc := fun x => scope.names.lookup x == some .cell, clo := false, lam := false }
/-- within a lambda: no names of its own -/
def Cn.lamb (G : Cn) (scope : Scope) : Cn := { N := G.N, sc := scope, fnc := fun _ => false, bor := [], clo := false, lam := false, inl := true }
def Cn.kind (G : Cn) (x : Str) : Option NameKind := G.sc.names.lookup x
def Cn.vis (G : Cn) (x : Str) : Bool := match G.kind x with | some .local => true | some .cell => true | some .free => true | _ => false
def Cn.loc (G : Cn) (x : Str) : Bool := match G.kind x with | some .local => true | some .cell => G.fnc x | _ => false
def Cn.glob (G : Cn) (x : Str) : Bool := match G.kind x with | some .globalImplicit => true | _ => false

/-- the module: constants, defs, the names of built-ins that it does not bind -/
inductive XC where
  | plain | own (f : Str)
structure Gb where
  consts : List (Str × D)
  defs : List Str
  free : List Str
  /-- exception classes; which one an except clause takes: the class raised, the class named -/
  excs : List (Str × XC) := []
  exm : List ((Str × Str) × Bool) := []
  /-- names of functions of built-in modules -/
  mods : List (Str × Bl) := []

abbrev Cl0 := Str → List D → R (D × List (Option D))
/-- the defs as they are called; the same within a lambda -/
structure Cl where
  f : Cl0
  low : Cl0
  /-- two levels are left -/
  two : Bool
def Cl.at (cl : Cl) (G : Cn) : Cl0 := if G.hc then fun _ _ => .stuck else if G.inl then cl.low else cl.f

def tyName (x : Str) : Option String :=
  if x == "int" then some "int" else if x == "bool" then some "bool" else if x == "tuple" then some "tuple" else if x == "list" then some "list"
  else if x == "str" then some "str" else if x == "dict" then some "dict" else none

def nameE (M : Gb) (G : Cn) (x : Str) (e : En) : R (RV × En) := match slotOf G.N x with
  | some i => if G.vis x then (match getE e i with
    | some d => .ok (if owned d then .han i [] else .val d, e)
    | none => .stuck) else .stuck
  | none => if G.glob x then (match M.consts.lookup x with
    | some d => .ok (.val d, e)
    | none => if M.defs.contains x then .ok (.val (.fn x), e) else if M.free.contains x then (match tyName x with | some t => .ok (.val (.ty t), e) | none => .stuck) else .stuck) else .stuck

def plainOp : CmpOp → Bool
  | .In => false
  | .NotIn => false
  | _ => true
/-- a comparison that is made as it is written -/
def okC (op : CmpOp) (b : Expr) : Bool := match op with
  | .In => okIn b
  | .NotIn => okIn b
  | _ => true
where okIn : Expr → Bool
  | .Name _ _ => true
  | .Tuple _ _ _ => true
  | .Subscript _ _ _ => true
  | .Call _ _ _ _ => true
  | _ => false
def plainIx : Expr → Bool
  | .Slice _ _ _ _ => false
  | _ => true
def stops : BoolOp → Bool → Bool
  | .And, c => !c
  | .Or, c => c
/-- an int that is reckoned with names and written numbers alone -/
def intE (G : Cn) : Nat → Expr → En → Option Int
  | 0, _, _ => none
  | n + 1, x, e => match x with
    | .Constant (.int i) _ _ => some i
    | .Name y _ => (match slotOf G.N y with
      | some j => if G.vis y then (match getE e j with | some (.int i) => some i | _ => none) else none
      | none => none)
    | .BinOp a .Add b _ => (match intE G n a e, intE G n b e with | some i, some j => some (i + j) | _, _ => none)
    | .BinOp a .Sub b _ => (match intE G n a e, intE G n b e with | some i, some j => some (i - j) | _, _ => none)
    | .UnaryOp .USub a _ => (match intE G n a e with | some i => some (-i) | none => none)
    | _ => none
/-- an item -/
def itemE (va : RV) (c : Option D) (i : Int) (e : En) : R (RV × En) := match c with
  | some (.tup xs) => (match item xs i with
    | some j => (match xs[j]? with | some d => .ok (.val d, e) | none => .stuck)
    | none => .stuck)
  | some (.lst m xs) => (match item xs i with
    | some j => (match xs[j]? with
      | some d => if owned d then (match va with | .han s p => .ok (.han s (p ++ [j]), e) | _ => .stuck) else .ok (.val d, e)
      | none => .stuck)
    | none => .stuck)
  | _ => .stuck
inductive Fl where
  | nx (e : En) | rt (d : D) (e : En) | bk (e : En) | ct (e : En)

def contents (e : En) : List RV → Option (List D)
  | [] => some []
  | v :: r => match content e v, contents e r with | some d, some ds => some (d :: ds) | _, _ => none

/-- a name that may be stored here -/
def okN (G : Cn) (x : Str) : Bool := (slotOf G.N x).isSome && G.loc x
def isHan : RV → Bool
  | .han _ _ => true
  | _ => false
def setS (G : Cn) (i : Nat) (d : D) (e : En) : R En := if G.bor.contains i then .stuck else if i < e.length then .ok (e.set i (some d)) else .stuck
def asgN (G : Cn) (x : Str) (d : D) (e : En) : R En := match slotOf G.N x with
  | some i => if G.loc x then setS G i d e else .stuck
  | none => .stuck
def asgNs (G : Cn) : List Expr → List D → En → R En
  | [], [], e => .ok e
  | .Name x _ :: r, d :: ds, e => (asgN G x d e).bind fun e1 => asgNs G r ds e1
  | _, _, _ => .stuck
/-- a target of a loop -/
def asgT (G : Cn) : Expr → D → En → R En
  | .Name x _, d, e => asgN G x d e
  | .Tuple ts _ _, .tup ds, e => if ts.length == ds.length then asgNs G ts ds e else .stuck
  | _, _, _ => .stuck

def rgOk (i : Int) : Bool := decide (-(2 ^ 62) ≤ i) && decide (i < 2 ^ 62)
def rgD (i : Int) (n : Nat) : List D := (List.range n).map fun (k : Nat) => .int (i + (k : Int))
def enD : Nat → List D → List D
  | _, [] => []
  | k, d :: r => .tup [.int k, d] :: enD (k + 1) r
def zipD : List D → List D → List D
  | d :: r, c :: s => .tup [d, c] :: zipD r s
  | _, _ => []
def isTup : Expr → Bool
  | .Tuple _ _ _ => true
  | _ => false

/-- the slots of a comprehension's own names -/
def ownOf (N : List Str) (scope : Scope) : List (Str × Nat) := scope.names.filterMap fun y => match y.2 with
  | .local => (slotOf N y.1).map fun i => (y.1, i)
  | .cell => (slotOf N y.1).map fun i => (y.1, i)
  | _ => none
def wipeE (e : En) : List Nat → En
  | [] => e
  | v :: vs => (wipeE e vs).set v none
def patchE (e0 : En) : En → List Nat → En
  | e, [] => e
  | e, v :: vs => patchE e0 (e.set v (match e0[v]? with | some o => o | none => none)) vs
def backE (e0 e : En) (vs : List Nat) : En := patchE e0 (wipeE e vs) vs
def freeE (e : En) : List Nat → Bool
  | [] => true
  | v :: vs => (match getE e v with | some d => !owned d | none => true) && freeE e vs

def forL (asg : D → En → R En) (body : En → R Fl) : List D → En → R Fl
  | [], e => .ok (.nx e)
  | d :: r, e => (asg d e).bind fun e1 => (body e1).bind fun
    | .nx e2 => forL asg body r e2
    | .ct e2 => forL asg body r e2
    | .bk e2 => .ok (.nx e2)
    | .rt x e2 => .ok (.rt x e2)
def whileL (test : En → R (Bool × En)) (body : En → R Fl) : Nat → En → R Fl
  | 0, _ => .stuck
  | n + 1, e => (test e).bind fun (b, e1) => if b then (body e1).bind fun
    | .nx e2 => whileL test body n e2
    | .ct e2 => whileL test body n e2
    | .bk e2 => .ok (.nx e2)
    | .rt x e2 => .ok (.rt x e2)
    else .ok (.nx e1)
def lcL (vs : List Nat) (asg : D → En → R En) (test : En → R (Bool × En)) (elt : En → R (D × En)) : List D → List D → En → R (List D × En)
  | [], acc, e => .ok (acc, e)
  | d :: r, acc, e => (asg d (wipeE e vs)).bind fun e1 => (test e1).bind fun (b, e2) =>
    if b then (elt e2).bind fun (x, e3) => if acc.length < sizeLine then lcL vs asg test elt r (acc ++ [x]) e3 else .stuck
    else lcL vs asg test elt r acc e2

/-- arguments for a def: what stands by itself is never changed again, a road's content is lent (its slot is empty meanwhile) -/
def lend (e : En) : List RV → Option (List D × List (Option Nat) × En)
  | [] => some ([], [], e)
  | .val d :: r => (match lend e r with | some (ds, is, e1) => some (frz d :: ds, none :: is, e1) | none => none)
  | .han i [] :: r => (match getE e i with
    | some d => (match lend (e.set i none) r with | some (ds, is, e1) => some (d :: ds, some i :: is, e1) | none => none)
    | none => none)
  | _ => none
def giveBack : List (Option Nat) → List (Option D) → En → Option En
  | [], _, e => some e
  | none :: r, _ :: s, e => giveBack r s e
  | some i :: r, some d :: s, e => giveBack r s (e.set i (some d))
  | _, _, _ => none
/-- the items of a display -/
def takes (e : En) : List RV → R (List D × En)
  | [] => .ok ([], e)
  | v :: r => (take e v).bind fun (d, e1) => (takes e1 r).bind fun (ds, e2) => .ok (d :: ds, e2)

def cut (xs : List D) (lo hi : Option Int) : List D := (xs.drop (HT.sIx xs.length 0 lo)).take (HT.sIx xs.length xs.length hi - HT.sIx xs.length 0 lo)

/-- a def of the module -/
def backF (is : List (Option Nat)) (e1 : En) : R (D × List (Option D)) → R (RV × En)
  | .ok (d, outs) => (match giveBack is outs e1 with | some e2 => .ok (.val d, e2) | none => .stuck)
  | .err c fs outs => (match giveBack is outs e1 with | some e2 => .err c fs e2 | none => .stuck)
  | .stuck => .stuck
def callF (cl : Cl0) (f : Str) (vs : List RV) (e : En) : R (RV × En) := match lend e vs with
  | some (ds, is, e1) => backF is e1 (cl f ds)
  | none => .stuck
/-- what a lambda sees: what is not owned -/
def bareE : En → En
  | [] => []
  | some d :: e => (if owned d then none else some d) :: bareE e
  | none :: e => none :: bareE e
def isClo : D → Bool
  | .cloV _ => true
  | .cloX _ _ _ => true
  | _ => false
mutual
/-- no lambda in it -/
def noClo : D → Bool
  | .cloV _ => false
  | .cloX _ _ _ => false
  | .fn x => x != Str.ofString "<lambda>"
  | .tup ds => noCloL ds
  | .lst _ ds => noCloL ds
  | .dic _ _ ds => noCloL ds
  | _ => true
def noCloL : List D → Bool
  | [] => true
  | d :: ds => noClo d && noCloL ds
end
/-- what a lambda will give -/
def closOf : R (RV × En) → Option D
  | .ok (.val d, _) => if noClo d then some (.cloV d) else none
  | .err c fs _ => if noCloL (fs.map (·.2)) && c != Str.ofString "<lambda>" then some (.cloX c (fs.map (·.1)) (fs.map (·.2))) else none
  | _ => none
def noPs : Arguments → Bool
  | ⟨[], [], none, [], [], none, []⟩ => true
  | _ => false
/-- a lambda that was handed here is called -/
def callC (G : Cn) (i : Nat) (e : En) : R (RV × En) := if G.clo then (match getE e i with
  | some (.cloV d) => .ok (.val d, e)
  | some (.cloX c ks ds) => .err c (ks.zip ds) e
  | _ => .stuck) else .stuck
def lamR (e : En) : R (D × List (Option D)) → R (RV × En)
  | .ok (d, _) => if noClo d then .ok (.val d, e) else .stuck
  | .err c fs _ => if noCloL (fs.map (·.2)) && c != Str.ofString "<lambda>" then .err c fs e else .stuck
  | .stuck => .stuck
def noErr {α : Type} : R α → R α
  | .err _ _ _ => .stuck
  | r => r
def noStar : List Expr → Bool
  | [] => true
  | .Starred _ _ :: _ => false
  | _ :: r => noStar r

section
variable (M : Gb) (cl : Cl)

mutual
def evE (G : Cn) : Nat → Expr → En → R (RV × En)
  | 0, _, _ => .stuck
  | n + 1, x, e => match x with
    | .Constant .none _ _ => .ok (.val .non, e)
    | .Constant (.bool b) _ _ => .ok (.val (.bl b), e)
    | .Constant (.int i) _ _ => .ok (.val (.int i), e)
    | .Constant (.str s) _ _ => .ok (.val (.str s), e)
    | .Name y _ => nameE M G y e
    | .BinOp a op b _ => (evO G n a e).bind fun (va, e1) => (evO G n b e1).bind fun (vb, e2) => match content e2 va, content e2 vb with
      | some x, some y => (match binop op x y with
        | some d => .ok (.val d, e2)
        | none => (takes e2 [va, vb]).bind fun (ds, e3) => match ds with
          | [x', y'] => (ofO (binop op x' y')).bind fun d => .ok (.val d, e3)
          | _ => .stuck)
      | _, _ => .stuck
    | .UnaryOp .Not a _ => (evE G n a e).bind fun (v, e1) => match content e1 v with | some d => (ofO (truth d)).bind fun b => .ok (.val (.bl !b), e1) | none => .stuck
    | .UnaryOp .USub a _ => (evE G n a e).bind fun (va, e1) => match content e1 va with
      | some (.int i) => .ok (.val (.int (-i)), e1)
      | _ => .stuck
    | .BoolOp op vs _ => evB G n op vs e
    | .IfExp t a b _ => (evT G n t e).bind fun (c, e1) => if c then evE G n a e1 else evE G n b e1
    | .Compare a [op] [b] _ => if okC op b then (evO G n a e).bind fun (va, e1) => (evO G n b e1).bind fun (vb, e2) => (match content e2 va, content e2 vb with
      | some x, some y => (ofO (cmpop op x y)).bind fun c => .ok (.val (.bl c), e2)
      | _, _ => .stuck) else .stuck
    | .Compare a [op, op2] [b, c] _ => if plainOp op && plainOp op2 then (evO G n a e).bind fun (va, e1) => (evO G n b e1).bind fun (vb, e2) => (match content e2 va, content e2 vb with
      | some x, some y => (ofO (cmpop op x y)).bind fun k => if k then (evO G n c e2).bind fun (vc, e3) => (match content e3 vb, content e3 vc with
        | some y', some z => (ofO (cmpop op2 y' z)).bind fun k2 => .ok (.val (.bl k2), e3)
        | _, _ => .stuck) else .ok (.val (.bl false), e2)
      | _, _ => .stuck) else .stuck
    | .Tuple es _ _ => (evA G n es e).bind fun (vs, e1) => (takes e1 vs).bind fun (ds, e2) => if lenOk ds.length then .ok (.val (.tup (frzL ds)), e2) else .stuck
    | .List es _ => (evA G n es e).bind fun (vs, e1) => (takes e1 vs).bind fun (ds, e2) => if lenOk ds.length then .ok (.val (.lst .own ds), e2) else .stuck
    | .Dict [] [] _ => .ok (.val (.dic .own [] []), e)
    | .Subscript a (.Slice none none (some (.UnaryOp .USub (.Constant (.int 1) _ _) _)) _) _ => (evE G n a e).bind fun (va, e1) => match content e1 va with
      | some (.tup xs) => if xs.isEmpty then .stuck else .ok (.val (.tup xs.reverse), e1)
      | some (.lst m xs) => if plainL xs then .ok (.val (.lst .own xs.reverse), e1) else .stuck
      | _ => .stuck
    | .Subscript a (.Slice lo hi none _) _ => (evO G n a e).bind fun (va, e1) => (evP G n lo e1).bind fun (l, e2) => (evP G n hi e2).bind fun (h, e3) => match content e3 va with
      | some (.tup xs) => .ok (.val (.tup (cut xs l h)), e3)
      | some (.lst m xs) => if plainL xs then .ok (.val (.lst .own (cut xs l h)), e3) else .stuck
      | _ => .stuck
    | .Subscript a b _ => if !plainIx b then .stuck else (evE G n a e).bind fun (va, e1) => match intE G 8 b e1 with
      | some i => itemE va (content e1 va) i e1
      | none => (sole e1 va).bind fun (va, e1) => (evE G n b e1).bind fun (vb, e2) => match content e2 vb with
        | some (.int i) => itemE va (content e2 va) i e2
        | _ => .stuck
    | .ListComp elt [⟨tg, iter, ifs, 0⟩] scope _ =>
      let own := ownOf G.N scope
      let vs := own.map (·.2)
      if blkC G.N G.sc scope own then (evI G n tg iter e).bind fun (ds, e1) => if freeE e1 vs then
        (noErr <| lcL vs (asgT (G.sub scope) tg) (fun e => evF (G.sub scope) n ifs e) (fun e => (evE (G.sub scope) n elt e).bind fun (v, e') => take e' v) ds [] e1).bind fun (out, e2) => .ok (.val (.lst .own out), backE e1 e2 vs)
        else .stuck
      else .stuck
    | .Call (.Name f _) [] [] _ => (match slotOf G.N f with
      | some i => if G.vis f then callC G i e else .stuck
      | none => .stuck)
    | .Call (.Name f _) [.Lambda ps body scope _] [] _ => if G.lam && cl.two && noPs ps && LamX.lamSB G.sc scope && (slotOf G.N f).isNone && G.glob f && M.defs.contains f then
      (match closOf (evE (G.lamb scope) n body (bareE e)) with
        | some c => lamR e (cl.f f [c])
        | none => .stuck) else .stuck
    | .Call (.Name f _) [a] [] _ => if !noStar [a] then .stuck else (match slotOf G.N f with
      | some i => if G.vis f then (match getE e i with
        | some (.fn y) => if M.defs.contains y then (evA G n [a] e).bind fun (vs, e1) => callF (cl.at G) y vs e1 else .stuck
        | _ => .stuck) else .stuck
      | none => if G.glob f then (if M.defs.contains f then (evA G n [a] e).bind fun (vs, e1) => callF (cl.at G) f vs e1 else if M.free.contains f then (match bltOf f with
        | some b => (evE G n a e).bind fun (v, e1) => (match content e1 v with | some d => (ofO (callB b [d])).bind fun r => .ok (.val r, e1) | none => .stuck)
        | none => .stuck) else .stuck) else .stuck)
    | .Call (.Name f _) (a :: as) [] _ => if !noStar (a :: as) then .stuck else (match slotOf G.N f with
      | some i => if G.vis f then (match getE e i with
        | some (.fn y) => if M.defs.contains y then (evA G n (a :: as) e).bind fun (vs, e1) => callF (cl.at G) y vs e1 else .stuck
        | _ => .stuck) else .stuck
      | none => if G.glob f then (if M.defs.contains f then (evA G n (a :: as) e).bind fun (vs, e1) => callF (cl.at G) f vs e1 else if M.free.contains f then (match bltOf f with
        | some b => (evA G n (a :: as) e).bind fun (vs, e1) => (match contents e1 vs with | some ds => (ofO (callB b ds)).bind fun r => .ok (.val r, e1) | none => .stuck)
        | none => .stuck) else (match M.mods.lookup f with
        | some b => (evA G n (a :: as) e).bind fun (vs, e1) => (match contents e1 vs with | some ds => (ofO (callB b ds)).bind fun r => .ok (.val r, e1) | none => .stuck)
        | none => .stuck)) else .stuck)
    | _ => .stuck
/-- an operand -/
def evO (G : Cn) : Nat → Expr → En → R (RV × En)
  | 0, _, _ => .stuck
  | n + 1, x, e => (evE G n x e).bind fun (v, e1) => sole e1 v
/-- a test -/
def evT (G : Cn) : Nat → Expr → En → R (Bool × En)
  | 0, _, _ => .stuck
  | n + 1, x, e => match x with
    | .BoolOp op vs _ => evTs G n op vs e
    | .UnaryOp .Not a _ => (evT G n a e).bind fun (b, e1) => .ok (!b, e1)
    | .IfExp t a b _ => (evT G n t e).bind fun (c, e1) => if c then evT G n a e1 else evT G n b e1
    | _ => (evE G n x e).bind fun (v, e1) => match content e1 v with | some d => (ofO (truth d)).bind fun b => .ok (b, e1) | none => .stuck
def evTs (G : Cn) : Nat → BoolOp → List Expr → En → R (Bool × En)
  | 0, _, _, _ => .stuck
  | n + 1, op, vs, e => match vs with
    | [] => .stuck
    | [a] => evT G n a e
    | a :: r => (evT G n a e).bind fun (c, e1) => if stops op c then .ok (c, e1) else evTs G n op r e1
/-- and, or as values -/
def evB (G : Cn) : Nat → BoolOp → List Expr → En → R (RV × En)
  | 0, _, _, _ => .stuck
  | n + 1, op, vs, e => match vs with
    | [] => .stuck
    | [a] => evE G n a e
    | a :: r => (evE G n a e).bind fun (v, e1) => match content e1 v with
      | some d => (ofO (truth d)).bind fun c => if stops op c then .ok (v, e1) else evB G n op r e1
      | none => .stuck
def evA (G : Cn) : Nat → List Expr → En → R (List RV × En)
  | 0, _, _ => .stuck
  | n + 1, vs, e => match vs with
    | [] => .ok ([], e)
    | a :: r => (evO G n a e).bind fun (v, e1) => (evA G n r e1).bind fun (vs, e2) => .ok (v :: vs, e2)
/-- a part of a slice -/
def evP (G : Cn) : Nat → Option Expr → En → R (Option Int × En)
  | 0, _, _ => .stuck
  | n + 1, x, e => match x with
    | none => .ok (none, e)
    | some a => (evE G n a e).bind fun (v, e1) => match content e1 v with | some (.int i) => .ok (some i, e1) | _ => .stuck
/-- a comprehension's tests -/
def evF (G : Cn) : Nat → List Expr → En → R (Bool × En)
  | 0, _, _ => .stuck
  | n + 1, x, e => match x with
    | [] => .ok (true, e)
    | [a] => evT G n a e
    | _ => .stuck
/-- what is walked -/
def evI (G : Cn) : Nat → Expr → Expr → En → R (List D × En)
  | 0, _, _, _ => .stuck
  | n + 1, tg, x, e => match x with
    | .Call (.Name f p) [a] [] q => if f == "range" then (match slotOf G.N f with
        | some _ => .stuck
        | none => if G.glob f && M.free.contains f then (evE G n a e).bind fun (v, e1) => (match content e1 v with | some (.int j) => if rgOk j then .ok (rgD 0 j.toNat, e1) else .stuck | _ => .stuck) else .stuck)
      else if f == "enumerate" then (match slotOf G.N f with
        | some _ => .stuck
        | none => if G.glob f && M.free.contains f && isTup tg then (evE G n a e).bind fun (v, e1) => (takeF e1 v).bind fun (d, e2) => (match d with | .tup ds => .ok (enD 0 ds, e2) | .lst _ ds => .ok (enD 0 ds, e2) | _ => .stuck) else .stuck)
      else evW G n x e
    | .Call (.Name f p) [a, b] [] q => if f == "range" then (match slotOf G.N f with
        | some _ => .stuck
        | none => if G.glob f && M.free.contains f && noStar [a, b] then (evO G n a e).bind fun (v, e1) => (evE G n b e1).bind fun (w, e2) => (match content e2 v, content e2 w with
          | some (.int i), some (.int j) => if rgOk i && rgOk j then .ok (rgD i (j - i).toNat, e2) else .stuck
          | _, _ => .stuck) else .stuck)
      else if f == "zip" then (match slotOf G.N f with
        | some _ => .stuck
        | none => if G.glob f && M.free.contains f && isTup tg && noStar [a, b] then (evA G n [a, b] e).bind fun (vs, e1) => (takes e1 vs).bind fun (ds, e2) => (match frzL ds with
          | [.tup xs, .tup ys] => .ok (zipD xs ys, e2)
          | [.lst _ xs, .lst _ ys] => .ok (zipD xs ys, e2)
          | _ => .stuck) else .stuck)
      else evW G n x e
    | _ => evW G n x e
def evW (G : Cn) : Nat → Expr → En → R (List D × En)
  | 0, _, _ => .stuck
  | n + 1, x, e => (evE G n x e).bind fun (v, e1) => (takeF e1 v).bind fun (d, e2) => match d with
    | .tup ds => .ok (ds, e2)
    | .lst _ ds => .ok (ds, e2)
    | _ => .stuck
end
end
end Ev

set_option Elab.async false
set_option linter.all false
set_option maxRecDepth 100000
/-! Ev3: statements, defs, levels. -/
namespace Ev
open PySem L2

/-- a, b = x, y (or three) with plain local names on one row: no tuple is made -/
def namesOn (G : Cn) (line : Nat) : List Expr → Option (List Str)
  | [] => some []
  | .Name x p :: r => if G.kind x == some .local && p.line == line then (match namesOn G line r with | some xs => some (x :: xs) | none => none) else none
  | _ => none
def headLine : List Expr → Nat
  | e :: _ => e.pos.line
  | [] => 0
inductive Sw where
  | no | yes (xs : List Str) | bad
def swap (G : Cn) (ts vs : List Expr) : Sw :=
  if !(ts.length == 2 || ts.length == 3) || vs.length != ts.length then .no
  else if !noStar vs then .bad
  else match namesOn G (headLine ts) ts with
    | some xs => if xs.eraseDups.length != xs.length then .bad else if vs.all (foldedForSure 8) then .no else if vs.all (constantsAlone 8) then .bad else .yes xs
    | none => .no

def plainO : Expr → Bool
  | .Call (.Name _ _) [] [] _ => false
  | _ => true
def isOL : Option D → Bool
  | some (.lst .own _) => true
  | _ => false
def binIp (op : Operator) (a b : D) : Option D := match op, a, b with
  | .Add, .int i, .int j => some (.int (i + j))
  | .Sub, .int i, .int j => some (.int (i - j))
  | _, _, _ => none

/-- what an except clause returns: c, the error's class; nm, the name of the error; fs, its fields -/
def evV (M : Gb) (c : Str) (nm : Option Str) (fs : List (Str × D)) : Expr → Option D
  | .Constant (.str s) _ _ => some (.str s)
  | .Constant (.bool b) _ _ => some (.bl b)
  | .Constant (.int i) _ _ => some (.int i)
  | .Attribute (.Name x _) f _ => if nm == some x then (match M.excs.lookup c with
    | some (.own g) => if g == f then fs.lookup f else none
    | _ => none) else none
  | _ => none
def evVs (M : Gb) (c : Str) (nm : Option Str) (fs : List (Str × D)) : List Expr → Option (List D)
  | [] => some []
  | x :: r => match evV M c nm fs x, evVs M c nm fs r with | some d, some ds => some (d :: ds) | _, _ => none
def evX (M : Gb) (c : Str) (nm : Option Str) (fs : List (Str × D)) : Expr → Option D
  | .Tuple es _ _ => (evVs M c nm fs es).bind fun ds => if lenOk ds.length && noStar es then some (.tup ds) else none
  | x => evV M c nm fs x
/-- the except clauses, one after the other -/
def evH (M : Gb) (G : Cn) (c : Str) (fs : List (Str × D)) (e : En) : List ExceptHandler → R Fl
  | [] => .err c fs e
  | .ExceptHandler (some (.Name x _)) none [.Return (some v) _] _ :: r => if (slotOf G.N x).isNone && G.glob x then (match M.exm.lookup (c, x) with
    | some true => (ofO (evX M c none fs v)).bind fun d => .ok (.rt d e)
    | some false => evH M G c fs e r
    | none => .stuck) else .stuck
  | .ExceptHandler (some (.Name x _)) (some nm) [.Return (some v) _] _ :: r => if (slotOf G.N x).isNone && G.glob x then (match slotOf G.N nm with
    | some i => if G.kind nm == some .local then (match M.exm.lookup (c, x) with
      | some true => (ofO (evX M c (some nm) fs v)).bind fun d => .ok (.rt d (e.set i none))
      | some false => evH M G c fs e r
      | none => .stuck) else .stuck
    | none => .stuck) else .stuck
  | _ => .stuck
section
variable (M : Gb) (cl : Cl)

def asgXs (G : Cn) : List Str → List D → En → R En
  | [], [], e => .ok e
  | x :: r, d :: ds, e => (asgN G x d e).bind fun e1 => asgXs G r ds e1
  | _, _, _ => .stuck
/-- xs[i] = d -/
def asgI (G : Cn) (n : Nat) (a b : Expr) (d : D) (e : En) : R En := if !plainIx b then .stuck else (evE M cl G n a e).bind fun (va, e1) => match va, content e1 va, intE G 8 b e1 with
  | .han s p, some (.lst .own xs), some i => (match item xs i, getE e1 s with
    | some j, some d0 => (match putPart d0 (p ++ [j]) d with | some d1 => .ok (e1.set s (some d1)) | none => .stuck)
    | _, _ => .stuck)
  | _, _, _ => .stuck
def tgOk : List Expr → Bool
  | [] => true
  | .Name _ _ :: r => tgOk r
  | .Subscript _ _ _ :: r => tgOk r
  | _ => false
/-- targets of a tuple assignment, from the left -/
def asgEach (G : Cn) (n : Nat) : List Expr → List D → En → R En
  | [], [], e => .ok e
  | .Name x _ :: r, d :: ds, e => (asgN G x d e).bind fun e1 => asgEach G n r ds e1
  | .Subscript a b _ :: r, d :: ds, e => (asgI M cl G n a b d e).bind fun e1 => asgEach G n r ds e1
  | _, _, _ => .stuck

mutual
def evS (G : Cn) (w : Nat) : Nat → Stmt → En → R Fl
  | 0, _, _ => .stuck
  | n + 1, st, e => match st with
    | .Pass _ => .ok (.nx e)
    | .Break _ => .ok (.bk e)
    | .Continue _ => .ok (.ct e)
    | .Return none _ => .ok (.rt .non e)
    | .Return (some x) _ => (evE M cl G w x e).bind fun (v, e1) => match v with
      | .val d => .ok (.rt d e1)
      | .han i [] => if G.bor.contains i then (take e1 v).bind fun (d, e2) => .ok (.rt d e2) else (match getE e1 i with | some d => .ok (.rt d (e1.set i none)) | none => .stuck)
      | .han i (j :: p) => (take e1 v).bind fun (d, e2) => .ok (.rt d e2)
    | .Expr (.Call (.Attribute o m ap) [a] [] cp) _ => if m == "append" && ap.endLine == cp.line && noStar [a] && plainO o then
        (evO M cl G w o e).bind fun (vo, e1) => if !isOL (content e1 vo) || !isHan vo then .stuck else (evE M cl G w a e1).bind fun (va, e2) => (take e2 va).bind fun (d, e3) => match vo, content e3 vo with
          | .han s p, some (.lst .own xs) => if xs.length < sizeLine then (match getE e3 s with
            | some d0 => (match putPart d0 p (.lst .own (xs ++ [d])) with | some d1 => .ok (.nx (e3.set s (some d1))) | none => .stuck)
            | none => .stuck) else .stuck
          | _, _ => .stuck
      else if m == "extend" && ap.endLine == cp.line && noStar [a] && plainO o then
        (evO M cl G w o e).bind fun (vo, e1) => if !isOL (content e1 vo) || !isHan vo then .stuck else (evE M cl G w a e1).bind fun (va, e2) => (take e2 va).bind fun (d, e3) => match vo, content e3 vo, d with
          | .han s p, some (.lst .own xs), .lst m ys => if m != .ext && xs.length + ys.length ≤ sizeLine then (match getE e3 s with
            | some d0 => (match putPart d0 p (.lst .own (xs ++ ys)) with | some d1 => .ok (.nx (e3.set s (some d1))) | none => .stuck)
            | none => .stuck) else .stuck
          | _, _, _ => .stuck
      else .stuck
    | .Expr (.Call (.Name f p) as [] q) _ => (evE M cl G w (.Call (.Name f p) as [] q) e).bind fun (_, e1) => .ok (.nx e1)
    | .Assign [.Name x _] v _ => if okN G x then (evE M cl G w v e).bind fun (rv, e1) => (take e1 rv).bind fun (d, e2) => (asgN G x d e2).bind fun e3 => .ok (.nx e3) else .stuck
    | .Assign [.Tuple ts _ _] v _ => (match v with
      | .Tuple vs _ _ => (match swap G ts vs with
        | .yes xs => if !(xs.all fun x => (slotOf G.N x).isSome) then .stuck else (evA M cl G w vs e).bind fun (rs, e1) => (takes e1 rs).bind fun (ds, e2) => (asgXs G xs ds e2).bind fun e3 => .ok (.nx e3)
        | .no => if ts.length == vs.length && tgOk ts then (evA M cl G w vs e).bind fun (rs, e1) => (takes e1 rs).bind fun (ds, e2) => if lenOk ds.length && ts.length == ds.length then (asgEach M cl G w ts ds e2).bind fun e3 => .ok (.nx e3) else .stuck else .stuck
        | .bad => .stuck)
      | _ => asgTup G w ts v e)
    | .Assign [.Subscript a b _] v _ => (evE M cl G w v e).bind fun (rv, e1) => (take e1 rv).bind fun (d, e2) => (asgI M cl G w a b d e2).bind fun e3 => .ok (.nx e3)
    | .AugAssign (.Name x _) op v _ => (match slotOf G.N x with
      | some i => if G.loc x then (match getE e i with
        | some (.int o) => (evE M cl G w v e).bind fun (rv, e1) => (match content e1 rv with
          | some y => (ofO (binIp op (.int o) y)).bind fun d => (setS G i d e1).bind fun e2 => .ok (.nx e2)
          | none => .stuck)
        | _ => .stuck) else .stuck
      | none => .stuck)
    | .Raise (some (.Call (.Name c _) [a] [] _)) none _ => if (slotOf G.N c).isNone && G.glob c then (match M.excs.lookup c with
      | some .plain => (match a with | .Constant (.str _) _ _ => .err c [] e | _ => .stuck)
      | some (.own f) => if noStar [a] then (evE M cl G w a e).bind fun (v, e1) => (takeF e1 v).bind fun (d, e2) => .err c [(f, d)] e2 else .stuck
      | none => .stuck) else .stuck
    | .Try body (h0 :: hds) [] [] _ => (match evSs G w n body e with
      | .err c fs e1 => evH M G c fs e1 (h0 :: hds)
      | r => r)
    | .If c a b _ => (evT M cl G w c e).bind fun (k, e1) => if k then evSs G w n a e1 else evSs G w n b e1
    | .For tg iter body [] _ => (evI M cl G w tg iter e).bind fun (ds, e1) => forL (asgT G tg) (fun e => evSs G w n body e) ds e1
    | .While c body [] _ => whileL (fun e => evT M cl G w c e) (fun e => evSs G w n body e) (2 ^ 32) e
    | _ => .stuck
def evSs (G : Cn) (w : Nat) : Nat → List Stmt → En → R Fl
  | 0, _, _ => .stuck
  | n + 1, ss, e => match ss with
    | [] => .ok (.nx e)
    | s :: r => (evS G w n s e).bind fun
      | .nx e1 => evSs G w n r e1
      | f => .ok f
def asgTup (G : Cn) (w : Nat) (ts : List Expr) (v : Expr) (e : En) : R Fl := if !tgOk ts then .stuck else
  (evE M cl G w v e).bind fun (rv, e1) => (takeF e1 rv).bind fun (d, e2) => match d with
    | .tup ds => if ts.length == ds.length then (asgEach M cl G w ts ds e2).bind fun e3 => .ok (.nx e3) else .stuck
    | _ => .stuck
end
end

/-- the defs: the name that the module holds it by, the statement, the slots' names, the number of parameters -/
structure Df where
  st : Stmt
  N : List Str
  np : Nat
  clo : Bool := false
  lam : Bool := false

def outsOf : List D → En → List (Option D)
  | [], _ => []
  | d :: ds, o :: e => (if owned d then o else none) :: outsOf ds e
  | _ :: ds, [] => none :: outsOf ds []
def borOf (ds : List D) : List Nat := (List.range ds.length).filter fun j => match ds[j]? with | some d => owned d | none => false

def runDef (M : Gb) (cl : Cl) (f : Df) (ds : List D) : R (D × List (Option D)) :=
  if ds.length ≠ f.np then .stuck else if !f.clo && ds.any isClo then .stuck else
  match evSs M cl { N := f.N, sc := defScope f.st, fnc := fun _ => true, bor := borOf ds, clo := f.clo, lam := f.lam, hc := f.clo } 60 200 (defBody f.st) (ds.map some ++ List.replicate (f.N.length - ds.length) none) with
    | .ok (.nx e) => .ok (.non, outsOf ds e)
    | .ok (.rt d e) => .ok (d, outsOf ds e)
    | .err c fs e => .err c fs (outsOf ds e)
    | _ => .stuck

/-- the defs at level k, at k - 1, at k - 2 -/
def levP (M : Gb) (T : List (Str × Df)) : Nat → Cl0 × Cl0 × Cl0
  | 0 => (fun _ _ => .stuck, fun _ _ => .stuck, fun _ _ => .stuck)
  | k + 1 => (fun f ds => match T.lookup f with
    | some df => runDef M ⟨(levP M T k).1, (levP M T k).2.2, decide (2 ≤ k)⟩ df ds
    | none => .stuck, (levP M T k).1, (levP M T k).2.1)
def lev (M : Gb) (T : List (Str × Df)) (k : Nat) : Cl0 := (levP M T k).1
def low (M : Gb) (T : List (Str × Df)) (k : Nat) : Cl0 := (levP M T k).2.2
theorem lev_succ {M : Gb} {T : List (Str × Df)} {k : Nat} {f : Str} {ds : List D} : lev M T (k + 1) f ds = match T.lookup f with
    | some df => runDef M ⟨lev M T k, low M T k, decide (2 ≤ k)⟩ df ds
    | none => .stuck := rfl
theorem low_two {M : Gb} {T : List (Str × Df)} {k : Nat} : low M T (k + 2) = lev M T k := rfl
end Ev

set_option Elab.async false
set_option linter.all false
set_option maxRecDepth 100000
/-! Ev4: how data lie in a heap. F: what is never written again; as: the addresses that are owned. -/
namespace Ev
open PySem L2

/-- where one reckons: what the module's names hold, the lambda that is handed on, the tables of the code objects -/
structure Me where
  K : PySem.W.Frag
  of : Str → Option Value
  clo : Option D
  F0 : Hp := fun _ => none
  cod : List (Addr × Str) := []
abbrev lamN : Str := Str.ofString "<lambda>"
/-- no code object's table -/
def NT (o : HO) : Prop := ∀ ps, o ≠ .tbl ps
theorem nt_lst {xs : List V} : NT (.lst xs) := fun _ h => by cases h
theorem nt_tup {xs : List V} : NT (.tup xs) := fun _ h => by cases h
theorem nt_dK {xs : List (Key × V)} : NT (.dK xs) := fun _ h => by cases h
theorem nt_xd {xs : List (Str × V)} : NT (.xd xs) := fun _ h => by cases h
section
variable (K : PySem.W.Frag) (mg : Me) (F H : Hp)
mutual
def Rep : D → V → List Addr → Prop
  | .non, v, as => v = .non ∧ as = []
  | .bl b, v, as => v = .bl b ∧ as = []
  | .int i, v, as => v = .int i ∧ as = []
  | .str x, v, as => v = .str x ∧ as = []
  | .ty n, v, as => v = .ty n ∧ as = []
  | .fn x, v, as => as = [] ∧ ∃ a, v = .ref a ∧ mg.of x = some (.ref a)
  | .cloV d, v, as => as = [] ∧ mg.clo = some (.cloV d) ∧ ∃ a, v = .ref a ∧ mg.of lamN = some (.ref a)
  | .cloX c ks ds, v, as => as = [] ∧ mg.clo = some (.cloX c ks ds) ∧ ∃ a, v = .ref a ∧ mg.of lamN = some (.ref a)
  | .tup ds, v, as => as = [] ∧ ∃ a vs, v = .ref a ∧ SqT K F a vs ∧ ReL ds vs []
  | .lst .own ds, v, as => ∃ a vs bs, v = .ref a ∧ as = a :: bs ∧ H a = some (.lst vs) ∧ ReL ds vs bs
  | .lst .fro ds, v, as => as = [] ∧ ∃ a vs, v = .ref a ∧ F a = some (.lst vs) ∧ ReL ds vs []
  | .lst .ext ds, v, as => as = [] ∧ ∃ a vs, v = .ref a ∧ SqL K F a vs ∧ ReL ds vs []
  | .dic .own ks ds, v, as => ∃ a kvs bs, v = .ref a ∧ as = a :: bs ∧ H a = some (.dK kvs) ∧ kvs.map (·.1) = ks ∧ ReL ds (kvs.map (·.2)) bs
  | .dic _ ks ds, v, as => as = [] ∧ ∃ a kvs, v = .ref a ∧ F a = some (.dK kvs) ∧ kvs.map (·.1) = ks ∧ ReL ds (kvs.map (·.2)) []
def ReL : List D → List V → List Addr → Prop
  | [], vs, as => vs = [] ∧ as = []
  | d :: ds, vs, as => ∃ v r a1 a2, vs = v :: r ∧ as = a1 ++ a2 ∧ Rep d v a1 ∧ ReL ds r a2
end
/-- the slots -/
def EL : En → St → List Addr → Prop
  | [], σ, as => σ = [] ∧ as = []
  | none :: e, σ, as => ∃ o r, σ = o :: r ∧ EL e r as
  | some d :: e, σ, as => ∃ v r a1 a2, σ = some v :: r ∧ as = a1 ++ a2 ∧ Rep K mg F H d v a1 ∧ EL e r a2
end

def Le (F F' : Hp) : Prop := ∀ a o, F a = some o → F' a = some o
/-- the tables of the code objects that make lambdas -/
class TabsC where
  T : List (Addr × Str)
/-- the tables tell code objects, the known code objects stand -/
def TC [TabsC] (me : Me) (H : Hp) : Prop := LamX.Tabs TabsC.T H ∧ ∀ p ∈ me.cod, H p.1 = some (LamX.CodeO p.1 p.2)
/-- what is kept for good holds no table; the tables tell code objects; what was kept where the lambda was made is kept -/
def Ax [TabsC] (me : Me) (F H : Hp) : Prop := (∀ a o, F a = some o → NT o) ∧ TC me H ∧ Le me.F0 F
theorem Le.refl (F : Hp) : Le F F := fun _ _ h => h
theorem Le.trans {F G H : Hp} (a : Le F G) (b : Le G H) : Le F H := fun x o h => b x o (a x o h)
theorem Le.seqL {K : PySem.W.Frag} {F F' : Hp} {a : Addr} {xs : List V} (l : Le F F') (h : SqL K F a xs) : SqL K F' a xs := by
  rcases h with (h | ⟨o, h⟩) | h
  · exact .inl (.inl (l _ _ h))
  · exact .inl (.inr ⟨o, l _ _ h⟩)
  · exact .inr h
theorem Le.seqT {K : PySem.W.Frag} {F F' : Hp} {a : Addr} {xs : List V} (l : Le F F') (h : SqT K F a xs) : SqT K F' a xs := by
  rcases h with (h | ⟨o, h⟩) | h
  · exact .inl (.inl (l _ _ h))
  · exact .inl (.inr ⟨o, l _ _ h⟩)
  · exact .inr h

section
variable {K : PySem.W.Frag} {mg : Me} {F H F' H' : Hp}
mutual
theorem Rep.mono (l : Le F F') : ∀ (d : D) (v : V) (as : List Addr), (∀ a ∈ as, ∀ o, H a = some o → H' a = some o) → Rep K mg F H d v as → Rep K mg F' H' d v as
  | .non, v, as, k, h => by simp only [Rep] at h ⊢; exact h
  | .bl b, v, as, k, h => by simp only [Rep] at h ⊢; exact h
  | .int i, v, as, k, h => by simp only [Rep] at h ⊢; exact h
  | .str x, v, as, k, h => by simp only [Rep] at h ⊢; exact h
  | .ty n, v, as, k, h => by simp only [Rep] at h ⊢; exact h
  | .fn x, v, as, k, h => by simp only [Rep] at h ⊢; exact h
  | .cloV x, v, as, k, h => by simp only [Rep] at h ⊢; exact h
  | .cloX x _ _, v, as, k, h => by simp only [Rep] at h ⊢; exact h
  | .tup ds, v, as, k, h => by
    simp only [Rep] at h ⊢
    obtain ⟨e, a, vs, ev, hs, hr⟩ := h
    exact ⟨e, a, vs, ev, l.seqT hs, ReL.mono l ds vs [] (fun _ z => absurd z (by simp)) hr⟩
  | .lst .own ds, v, as, k, h => by
    simp only [Rep] at h ⊢
    obtain ⟨a, vs, bs, ev, e, hs, hr⟩ := h
    subst e
    exact ⟨a, vs, bs, ev, rfl, k a List.mem_cons_self _ hs, ReL.mono l ds vs bs (fun b hb => k b (List.mem_cons_of_mem _ hb)) hr⟩
  | .lst .fro ds, v, as, k, h => by
    simp only [Rep] at h ⊢
    obtain ⟨e, a, vs, ev, hs, hr⟩ := h
    exact ⟨e, a, vs, ev, l _ _ hs, ReL.mono l ds vs [] (fun _ z => absurd z (by simp)) hr⟩
  | .lst .ext ds, v, as, k, h => by
    simp only [Rep] at h ⊢
    obtain ⟨e, a, vs, ev, hs, hr⟩ := h
    exact ⟨e, a, vs, ev, l.seqL hs, ReL.mono l ds vs [] (fun _ z => absurd z (by simp)) hr⟩
  | .dic .own ks ds, v, as, k, h => by
    simp only [Rep] at h ⊢
    obtain ⟨a, kvs, bs, ev, e, hs, hk, hr⟩ := h
    subst e
    exact ⟨a, kvs, bs, ev, rfl, k a List.mem_cons_self _ hs, hk, ReL.mono l ds _ bs (fun b hb => k b (List.mem_cons_of_mem _ hb)) hr⟩
  | .dic .fro ks ds, v, as, k, h => by
    simp only [Rep] at h ⊢
    obtain ⟨e, a, kvs, ev, hs, hk, hr⟩ := h
    exact ⟨e, a, kvs, ev, l _ _ hs, hk, ReL.mono l ds _ [] (fun _ z => absurd z (by simp)) hr⟩
  | .dic .ext ks ds, v, as, k, h => by
    simp only [Rep] at h ⊢
    obtain ⟨e, a, kvs, ev, hs, hk, hr⟩ := h
    exact ⟨e, a, kvs, ev, l _ _ hs, hk, ReL.mono l ds _ [] (fun _ z => absurd z (by simp)) hr⟩
theorem ReL.mono (l : Le F F') : ∀ (ds : List D) (vs : List V) (as : List Addr), (∀ a ∈ as, ∀ o, H a = some o → H' a = some o) → ReL K mg F H ds vs as → ReL K mg F' H' ds vs as
  | [], vs, as, k, h => by simp only [ReL] at h ⊢; exact h
  | d :: ds, vs, as, k, h => by
    simp only [ReL] at h ⊢
    obtain ⟨v, r, a1, a2, ev, e, h1, h2⟩ := h
    subst e
    exact ⟨v, r, a1, a2, ev, rfl, Rep.mono l d v a1 (fun a z => k a (List.mem_append_left _ z)) h1, ReL.mono l ds r a2 (fun a z => k a (List.mem_append_right _ z)) h2⟩
end
theorem EL.mono (l : Le F F') : ∀ (e : En) (σ : St) (as : List Addr), (∀ a ∈ as, ∀ o, H a = some o → H' a = some o) → EL K mg F H e σ as → EL K mg F' H' e σ as
  | [], σ, as, k, h => by simp only [EL] at h ⊢; exact h
  | none :: e, σ, as, k, h => by
    simp only [EL] at h ⊢
    obtain ⟨o, r, es, h⟩ := h
    exact ⟨o, r, es, EL.mono l e r as k h⟩
  | some d :: e, σ, as, k, h => by
    simp only [EL] at h ⊢
    obtain ⟨v, r, a1, a2, ev, ee, h1, h2⟩ := h
    subst ee
    exact ⟨v, r, a1, a2, ev, rfl, Rep.mono l d v a1 (fun a z => k a (List.mem_append_left _ z)) h1, EL.mono l e r a2 (fun a z => k a (List.mem_append_right _ z)) h2⟩

mutual
/-- what is owned stands in the heap -/
theorem Rep.live : ∀ (d : D) (v : V) (as : List Addr), Rep K mg F H d v as → ∀ a ∈ as, ∃ o, H a = some o
  | .lst .own ds, v, as, h, b, hb => by
    simp only [Rep] at h
    obtain ⟨a, vs, bs, ev, e, hs, hr⟩ := h
    subst e
    rcases List.mem_cons.mp hb with z | z
    · exact ⟨_, by rw [z]; exact hs⟩
    · exact ReL.live ds vs bs hr b z
  | .dic .own ks ds, v, as, h, b, hb => by
    simp only [Rep] at h
    obtain ⟨a, kvs, bs, ev, e, hs, hk, hr⟩ := h
    subst e
    rcases List.mem_cons.mp hb with z | z
    · exact ⟨_, by rw [z]; exact hs⟩
    · exact ReL.live ds _ bs hr b z
  | .non, v, as, h, b, hb => by simp only [Rep] at h; rw [h.2] at hb; exact absurd hb (by simp)
  | .bl _, v, as, h, b, hb => by simp only [Rep] at h; rw [h.2] at hb; exact absurd hb (by simp)
  | .int _, v, as, h, b, hb => by simp only [Rep] at h; rw [h.2] at hb; exact absurd hb (by simp)
  | .str _, v, as, h, b, hb => by simp only [Rep] at h; rw [h.2] at hb; exact absurd hb (by simp)
  | .ty _, v, as, h, b, hb => by simp only [Rep] at h; rw [h.2] at hb; exact absurd hb (by simp)
  | .fn _, v, as, h, b, hb => by simp only [Rep] at h; rw [h.1] at hb; exact absurd hb (by simp)
  | .cloV _, v, as, h, b, hb => by simp only [Rep] at h; rw [h.1] at hb; exact absurd hb (by simp)
  | .cloX _ _ _, v, as, h, b, hb => by simp only [Rep] at h; rw [h.1] at hb; exact absurd hb (by simp)
  | .tup _, v, as, h, b, hb => by simp only [Rep] at h; rw [h.1] at hb; exact absurd hb (by simp)
  | .lst .fro _, v, as, h, b, hb => by simp only [Rep] at h; rw [h.1] at hb; exact absurd hb (by simp)
  | .lst .ext _, v, as, h, b, hb => by simp only [Rep] at h; rw [h.1] at hb; exact absurd hb (by simp)
  | .dic .fro _ _, v, as, h, b, hb => by simp only [Rep] at h; rw [h.1] at hb; exact absurd hb (by simp)
  | .dic .ext _ _, v, as, h, b, hb => by simp only [Rep] at h; rw [h.1] at hb; exact absurd hb (by simp)
theorem ReL.live : ∀ (ds : List D) (vs : List V) (as : List Addr), ReL K mg F H ds vs as → ∀ a ∈ as, ∃ o, H a = some o
  | [], vs, as, h, b, hb => by simp only [ReL] at h; rw [h.2] at hb; exact absurd hb (by simp)
  | d :: ds, vs, as, h, b, hb => by
    simp only [ReL] at h
    obtain ⟨v, r, a1, a2, ev, e, h1, h2⟩ := h
    subst e
    rcases List.mem_append.mp hb with z | z
    · exact Rep.live d v a1 h1 b z
    · exact ReL.live ds r a2 h2 b z
end
theorem EL.live : ∀ (e : En) (σ : St) (as : List Addr), EL K mg F H e σ as → ∀ a ∈ as, ∃ o, H a = some o
  | [], σ, as, h, b, hb => by simp only [EL] at h; rw [h.2] at hb; exact absurd hb (by simp)
  | none :: e, σ, as, h, b, hb => by
    simp only [EL] at h
    obtain ⟨o, r, es, h⟩ := h
    exact EL.live e r as h b hb
  | some d :: e, σ, as, h, b, hb => by
    simp only [EL] at h
    obtain ⟨v, r, a1, a2, ev, ee, h1, h2⟩ := h
    subst ee
    rcases List.mem_append.mp hb with z | z
    · exact Rep.live d v a1 h1 b z
    · exact EL.live e r a2 h2 b z

mutual
/-- what is owned is no table -/
theorem Rep.nt : ∀ (d : D) (v : V) (as : List Addr), Rep K mg F H d v as → ∀ a ∈ as, ∀ o, H a = some o → NT o
  | .lst .own ds, v, as, h, b, hb, o, ho => by
    simp only [Rep] at h
    obtain ⟨a, vs, bs, ev, e, hs, hr⟩ := h
    subst e
    rcases List.mem_cons.mp hb with z | z
    · rw [z, hs] at ho; cases ho; exact nt_lst
    · exact ReL.nt ds vs bs hr b z o ho
  | .dic .own ks ds, v, as, h, b, hb, o, ho => by
    simp only [Rep] at h
    obtain ⟨a, vs, bs, ev, e, hs, hk, hr⟩ := h
    subst e
    rcases List.mem_cons.mp hb with z | z
    · rw [z, hs] at ho; cases ho; exact nt_dK
    · exact ReL.nt ds _ bs hr b z o ho
  | .non, v, as, h, b, hb, _, _ => by simp only [Rep] at h; rw [h.2] at hb; exact absurd hb (by simp)
  | .bl _, v, as, h, b, hb, _, _ => by simp only [Rep] at h; rw [h.2] at hb; exact absurd hb (by simp)
  | .int _, v, as, h, b, hb, _, _ => by simp only [Rep] at h; rw [h.2] at hb; exact absurd hb (by simp)
  | .str _, v, as, h, b, hb, _, _ => by simp only [Rep] at h; rw [h.2] at hb; exact absurd hb (by simp)
  | .ty _, v, as, h, b, hb, _, _ => by simp only [Rep] at h; rw [h.2] at hb; exact absurd hb (by simp)
  | .fn _, v, as, h, b, hb, _, _ => by simp only [Rep] at h; rw [h.1] at hb; exact absurd hb (by simp)
  | .cloV _, v, as, h, b, hb, _, _ => by simp only [Rep] at h; rw [h.1] at hb; exact absurd hb (by simp)
  | .cloX _ _ _, v, as, h, b, hb, _, _ => by simp only [Rep] at h; rw [h.1] at hb; exact absurd hb (by simp)
  | .tup _, v, as, h, b, hb, _, _ => by simp only [Rep] at h; rw [h.1] at hb; exact absurd hb (by simp)
  | .lst .fro _, v, as, h, b, hb, _, _ => by simp only [Rep] at h; rw [h.1] at hb; exact absurd hb (by simp)
  | .lst .ext _, v, as, h, b, hb, _, _ => by simp only [Rep] at h; rw [h.1] at hb; exact absurd hb (by simp)
  | .dic .fro _ _, v, as, h, b, hb, _, _ => by simp only [Rep] at h; rw [h.1] at hb; exact absurd hb (by simp)
  | .dic .ext _ _, v, as, h, b, hb, _, _ => by simp only [Rep] at h; rw [h.1] at hb; exact absurd hb (by simp)
theorem ReL.nt : ∀ (ds : List D) (vs : List V) (as : List Addr), ReL K mg F H ds vs as → ∀ a ∈ as, ∀ o, H a = some o → NT o
  | [], vs, as, h, b, hb, _, _ => by simp only [ReL] at h; rw [h.2] at hb; exact absurd hb (by simp)
  | d :: ds, vs, as, h, b, hb, o, ho => by
    simp only [ReL] at h
    obtain ⟨v, r, a1, a2, ev, e, h1, h2⟩ := h
    subst e
    rcases List.mem_append.mp hb with z | z
    · exact Rep.nt d v a1 h1 b z o ho
    · exact ReL.nt ds r a2 h2 b z o ho
end
theorem EL.nt : ∀ (e : En) (σ : St) (as : List Addr), EL K mg F H e σ as → ∀ a ∈ as, ∀ o, H a = some o → NT o
  | [], σ, as, h, b, hb, _, _ => by simp only [EL] at h; rw [h.2] at hb; exact absurd hb (by simp)
  | none :: e, σ, as, h, b, hb, o, ho => by
    simp only [EL] at h
    obtain ⟨o', r, es, h⟩ := h
    exact EL.nt e r as h b hb o ho
  | some d :: e, σ, as, h, b, hb, o, ho => by
    simp only [EL] at h
    obtain ⟨v, r, a1, a2, ev, ee, h1, h2⟩ := h
    subst ee
    rcases List.mem_append.mp hb with z | z
    · exact Rep.nt d v a1 h1 b z o ho
    · exact EL.nt e r a2 h2 b z o ho
/-- what is not owned owns nothing -/
theorem Rep.bare : ∀ {d : D} {v : V} {as : List Addr}, owned d = false → Rep K mg F H d v as → as = []
  | .lst .own _, _, _, h, _ => by simp [owned] at h
  | .dic .own _ _, _, _, h, _ => by simp [owned] at h
  | .non, _, _, _, h => by simp only [Rep] at h; exact h.2
  | .bl _, _, _, _, h => by simp only [Rep] at h; exact h.2
  | .int _, _, _, _, h => by simp only [Rep] at h; exact h.2
  | .str _, _, _, _, h => by simp only [Rep] at h; exact h.2
  | .ty _, _, _, _, h => by simp only [Rep] at h; exact h.2
  | .fn _, _, _, _, h => by simp only [Rep] at h; exact h.1
  | .cloV _, _, _, _, h => by simp only [Rep] at h; exact h.1
  | .cloX _ _ _, _, _, _, h => by simp only [Rep] at h; exact h.1
  | .tup _, _, _, _, h => by simp only [Rep] at h; exact h.1
  | .lst .fro _, _, _, _, h => by simp only [Rep] at h; exact h.1
  | .lst .ext _, _, _, _, h => by simp only [Rep] at h; exact h.1
  | .dic .fro _ _, _, _, _, h => by simp only [Rep] at h; exact h.1
  | .dic .ext _ _, _, _, _, h => by simp only [Rep] at h; exact h.1
theorem ReL.bare : ∀ {ds : List D} {vs : List V} {as : List Addr}, plainL ds = true → ReL K mg F H ds vs as → as = []
  | [], _, _, _, h => by simp only [ReL] at h; exact h.2
  | d :: ds, _, _, p, h => by
    simp only [ReL] at h
    obtain ⟨v, r, a1, a2, ev, e, h1, h2⟩ := h
    simp only [plainL, Bool.and_eq_true, Bool.not_eq_true'] at p
    rw [e, Rep.bare p.1 h1, ReL.bare p.2 h2]
    rfl

mutual
/-- freezing: G has all that F has, and what is owned as it stands -/
theorem Rep.freeze {G : Hp} (l : Le F G) : ∀ (d : D) (v : V) (as : List Addr), (∀ a ∈ as, ∀ o, H a = some o → G a = some o) → Rep K mg F H d v as → Rep K mg G H (frz d) v []
  | .lst .own ds, v, as, k, h => by
    simp only [Rep] at h
    obtain ⟨a, vs, bs, ev, e, hs, hr⟩ := h
    subst e
    simp only [frz, Rep]
    exact ⟨trivial, a, vs, ev, k a List.mem_cons_self _ hs, ReL.freeze l ds vs bs (fun b hb => k b (List.mem_cons_of_mem _ hb)) hr⟩
  | .dic .own ks ds, v, as, k, h => by
    simp only [Rep] at h
    obtain ⟨a, kvs, bs, ev, e, hs, hk, hr⟩ := h
    subst e
    simp only [frz, Rep]
    exact ⟨trivial, a, kvs, ev, k a List.mem_cons_self _ hs, hk, ReL.freeze l ds _ bs (fun b hb => k b (List.mem_cons_of_mem _ hb)) hr⟩
  | .non, v, as, k, h => by simp only [Rep] at h; simp only [frz, Rep]; exact ⟨h.1, trivial⟩
  | .bl _, v, as, k, h => by simp only [Rep] at h; simp only [frz, Rep]; exact ⟨h.1, trivial⟩
  | .int _, v, as, k, h => by simp only [Rep] at h; simp only [frz, Rep]; exact ⟨h.1, trivial⟩
  | .str _, v, as, k, h => by simp only [Rep] at h; simp only [frz, Rep]; exact ⟨h.1, trivial⟩
  | .ty _, v, as, k, h => by simp only [Rep] at h; simp only [frz, Rep]; exact ⟨h.1, trivial⟩
  | .fn _, v, as, k, h => by simp only [Rep] at h; simp only [frz, Rep]; exact ⟨trivial, h.2⟩
  | .cloV _, v, as, k, h => by simp only [Rep] at h; simp only [frz, Rep]; exact ⟨trivial, h.2⟩
  | .cloX _ _ _, v, as, k, h => by simp only [Rep] at h; simp only [frz, Rep]; exact ⟨trivial, h.2⟩
  | .tup ds, v, as, k, h => by rw [Rep.bare rfl h] at h; exact Rep.mono l _ _ _ (fun _ z => absurd z (by simp)) h
  | .lst .fro ds, v, as, k, h => by rw [Rep.bare rfl h] at h; exact Rep.mono l _ _ _ (fun _ z => absurd z (by simp)) h
  | .lst .ext ds, v, as, k, h => by rw [Rep.bare rfl h] at h; exact Rep.mono l _ _ _ (fun _ z => absurd z (by simp)) h
  | .dic .fro _ _, v, as, k, h => by rw [Rep.bare rfl h] at h; exact Rep.mono l _ _ _ (fun _ z => absurd z (by simp)) h
  | .dic .ext _ _, v, as, k, h => by rw [Rep.bare rfl h] at h; exact Rep.mono l _ _ _ (fun _ z => absurd z (by simp)) h
theorem ReL.freeze {G : Hp} (l : Le F G) : ∀ (ds : List D) (vs : List V) (as : List Addr), (∀ a ∈ as, ∀ o, H a = some o → G a = some o) → ReL K mg F H ds vs as → ReL K mg G H (frzL ds) vs []
  | [], vs, as, k, h => by simp only [ReL] at h; simp only [frzL, ReL]; exact ⟨h.1, trivial⟩
  | d :: ds, vs, as, k, h => by
    simp only [ReL] at h
    obtain ⟨v, r, a1, a2, ev, e, h1, h2⟩ := h
    subst e
    simp only [frzL, ReL]
    exact ⟨v, r, [], [], ev, rfl, Rep.freeze l d v a1 (fun a z => k a (List.mem_append_left _ z)) h1, ReL.freeze l ds r a2 (fun a z => k a (List.mem_append_right _ z)) h2⟩
end
/-- F, and what stands at as -/
def frzAt (F H : Hp) (as : List Addr) : Hp := fun b => if b ∈ as then H b else F b
theorem frzAt_in {as : List Addr} {a : Addr} (h : a ∈ as) : frzAt F H as a = H a := if_pos h
theorem frzAt_out {as : List Addr} {a : Addr} (h : a ∉ as) : frzAt F H as a = F a := if_neg h
theorem frzAt_le {as : List Addr} (s : Le F H) : Le F (frzAt F H as) := fun a o h => by
  by_cases q : a ∈ as
  · rw [frzAt_in q]; exact s a o h
  · rw [frzAt_out q]; exact h
theorem frzAt_sub {as : List Addr} (s : Le F H) : Le (frzAt F H as) H := fun a o h => by
  by_cases q : a ∈ as
  · rw [frzAt_in q] at h; exact h
  · rw [frzAt_out q] at h; exact s a o h

/-! ### lists of data: lengths, places -/
theorem ReL.length : ∀ {ds : List D} {vs : List V} {as : List Addr}, ReL K mg F H ds vs as → ds.length = vs.length
  | [], vs, as, h => by simp only [ReL] at h; rw [h.1]; rfl
  | d :: ds, vs, as, h => by
    simp only [ReL] at h
    obtain ⟨v, r, a1, a2, ev, e, h1, h2⟩ := h
    rw [ev, List.length_cons, List.length_cons, ReL.length h2]
theorem EL.length : ∀ {e : En} {σ : St} {as : List Addr}, EL K mg F H e σ as → e.length = σ.length
  | [], σ, as, h => by simp only [EL] at h; rw [h.1]; rfl
  | none :: e, σ, as, h => by
    simp only [EL] at h
    obtain ⟨o, r, es, h⟩ := h
    rw [es, List.length_cons, List.length_cons, EL.length h]
  | some d :: e, σ, as, h => by
    simp only [EL] at h
    obtain ⟨v, r, a1, a2, ev, ee, h1, h2⟩ := h
    rw [ev, List.length_cons, List.length_cons, EL.length h2]
/-- one place: what it owns, what the others own, and another datum there -/
theorem ReL.at : ∀ {ds : List D} {vs : List V} {as : List Addr} {j : Nat} {d : D}, ReL K mg F H ds vs as → ds[j]? = some d →
    ∃ v pre a1 post, vs[j]? = some v ∧ as = pre ++ a1 ++ post ∧ Rep K mg F H d v a1 ∧
      ∀ (F' H' : Hp) (d' : D) (v' : V) (a' : List Addr), Le F F' → (∀ a ∈ pre ++ post, ∀ o, H a = some o → H' a = some o) → Rep K mg F' H' d' v' a' → ReL K mg F' H' (ds.set j d') (vs.set j v') (pre ++ a' ++ post)
  | [], vs, as, j, d, h, hj => by simp at hj
  | d0 :: ds, vs, as, 0, d, h, hj => by
    simp only [ReL] at h
    obtain ⟨v, r, a1, a2, ev, e, h1, h2⟩ := h
    have q : d0 = d := by simpa using hj
    subst q
    subst ev
    refine ⟨v, [], a1, a2, rfl, by rw [e]; rfl, h1, fun F' H' d' v' a' l k h' => ?_⟩
    rw [List.set_cons_zero, List.set_cons_zero]
    simp only [ReL]
    exact ⟨v', r, a', a2, rfl, by simp, h', ReL.mono l ds r a2 (fun a z => k a (by simpa using z)) h2⟩
  | d0 :: ds, vs, as, j + 1, d, h, hj => by
    simp only [ReL] at h
    obtain ⟨v, r, a1, a2, ev, e, h1, h2⟩ := h
    subst ev
    obtain ⟨w, pre, b1, post, q1, q2, q3, q4⟩ := ReL.at (j := j) (d := d) h2 (by simpa using hj)
    refine ⟨w, a1 ++ pre, b1, post, by simpa using q1, by rw [e, q2]; simp, q3, fun F' H' d' v' a' l k h' => ?_⟩
    rw [List.set_cons_succ, List.set_cons_succ]
    simp only [ReL]
    refine ⟨v, r.set j v', a1, pre ++ a' ++ post, rfl, by simp, Rep.mono l d0 v a1 (fun a z => k a (by simp [z])) h1, q4 F' H' d' v' a' l (fun a z => k a ?_) h'⟩
    rcases List.mem_append.mp z with z | z <;> simp [z]
/-- one slot -/
theorem EL.at : ∀ {e : En} {σ : St} {as : List Addr} {i : Nat} {d : D}, EL K mg F H e σ as → getE e i = some d →
    ∃ v pre a1 post, σ[i]? = some (some v) ∧ as = pre ++ a1 ++ post ∧ Rep K mg F H d v a1 ∧
      ∀ (F' H' : Hp) (d' : D) (v' : V) (a' : List Addr), Le F F' → (∀ a ∈ pre ++ post, ∀ o, H a = some o → H' a = some o) → Rep K mg F' H' d' v' a' → EL K mg F' H' (e.set i (some d')) (σ.set i (some v')) (pre ++ a' ++ post)
  | [], σ, as, i, d, h, hj => by simp [getE] at hj
  | none :: e, σ, as, 0, d, h, hj => by simp [getE] at hj
  | some d0 :: e, σ, as, 0, d, h, hj => by
    simp only [EL] at h
    obtain ⟨v, r, a1, a2, ev, ee, h1, h2⟩ := h
    have q : d0 = d := by simpa [getE] using hj
    subst q
    subst ev
    refine ⟨v, [], a1, a2, rfl, by rw [ee]; rfl, h1, fun F' H' d' v' a' l k h' => ?_⟩
    rw [List.set_cons_zero, List.set_cons_zero]
    simp only [EL]
    exact ⟨v', r, a', a2, rfl, by simp, h', EL.mono l e r a2 (fun a z => k a (by simpa using z)) h2⟩
  | none :: e, σ, as, i + 1, d, h, hj => by
    simp only [EL] at h
    obtain ⟨o, r, es, h⟩ := h
    subst es
    obtain ⟨w, pre, b1, post, q1, q2, q3, q4⟩ := EL.at (i := i) (d := d) h (by simpa [getE] using hj)
    refine ⟨w, pre, b1, post, by simpa using q1, q2, q3, fun F' H' d' v' a' l k h' => ?_⟩
    rw [List.set_cons_succ, List.set_cons_succ]
    simp only [EL]
    exact ⟨o, r.set i (some v'), rfl, q4 F' H' d' v' a' l k h'⟩
  | some d0 :: e, σ, as, i + 1, d, h, hj => by
    simp only [EL] at h
    obtain ⟨v, r, a1, a2, ev, ee, h1, h2⟩ := h
    subst ev
    obtain ⟨w, pre, b1, post, q1, q2, q3, q4⟩ := EL.at (i := i) (d := d) h2 (by simpa [getE] using hj)
    refine ⟨w, a1 ++ pre, b1, post, by simpa using q1, by rw [ee, q2]; simp, q3, fun F' H' d' v' a' l k h' => ?_⟩
    rw [List.set_cons_succ, List.set_cons_succ]
    simp only [EL]
    refine ⟨v, r.set i (some v'), a1, pre ++ a' ++ post, rfl, by simp, Rep.mono l d0 v a1 (fun a z => k a (by simp [z])) h1, q4 F' H' d' v' a' l (fun a z => k a ?_) h'⟩
    rcases List.mem_append.mp z with z | z <;> simp [z]
/-- a slot is stored, whatever was in it -/
theorem EL.put : ∀ {e : En} {σ : St} {as : List Addr} {i : Nat}, EL K mg F H e σ as → i < e.length →
    ∃ pre a1 post, as = pre ++ a1 ++ post ∧ ∀ (d' : D) (v' : V) (a' : List Addr), Rep K mg F H d' v' a' → EL K mg F H (e.set i (some d')) (σ.set i (some v')) (pre ++ a' ++ post)
  | [], σ, as, i, h, hj => by simp at hj
  | none :: e, σ, as, 0, h, hj => by
    simp only [EL] at h
    obtain ⟨o, r, es, h⟩ := h
    subst es
    refine ⟨[], [], as, rfl, fun d' v' a' h' => ?_⟩
    rw [List.set_cons_zero, List.set_cons_zero]
    simp only [EL]
    exact ⟨v', r, a', as, rfl, by simp, h', h⟩
  | some d0 :: e, σ, as, 0, h, hj => by
    simp only [EL] at h
    obtain ⟨v, r, a1, a2, ev, ee, h1, h2⟩ := h
    subst ev
    refine ⟨[], a1, a2, by rw [ee]; rfl, fun d' v' a' h' => ?_⟩
    rw [List.set_cons_zero, List.set_cons_zero]
    simp only [EL]
    exact ⟨v', r, a', a2, rfl, by simp, h', h2⟩
  | none :: e, σ, as, i + 1, h, hj => by
    simp only [EL] at h
    obtain ⟨o, r, es, h⟩ := h
    subst es
    obtain ⟨pre, b1, post, q2, q4⟩ := EL.put (i := i) h (by simpa using hj)
    refine ⟨pre, b1, post, q2, fun d' v' a' h' => ?_⟩
    rw [List.set_cons_succ, List.set_cons_succ]
    simp only [EL]
    exact ⟨o, r.set i (some v'), rfl, q4 d' v' a' h'⟩
  | some d0 :: e, σ, as, i + 1, h, hj => by
    simp only [EL] at h
    obtain ⟨v, r, a1, a2, ev, ee, h1, h2⟩ := h
    subst ev
    obtain ⟨pre, b1, post, q2, q4⟩ := EL.put (i := i) h2 (by simpa using hj)
    refine ⟨a1 ++ pre, b1, post, by rw [ee, q2]; simp, fun d' v' a' h' => ?_⟩
    rw [List.set_cons_succ, List.set_cons_succ]
    simp only [EL]
    exact ⟨v, r.set i (some v'), a1, pre ++ a' ++ post, rfl, by simp, h1, q4 d' v' a' h'⟩
/-- a slot is forgotten -/
theorem EL.drop : ∀ {e : En} {σ : St} {as : List Addr} (i : Nat), EL K mg F H e σ as → ∃ pre a1 post, as = pre ++ a1 ++ post ∧ (∀ d, getE e i = some d → owned d = false → a1 = []) ∧
    (∀ d, getE e i = some d → ∃ v, σ[i]? = some (some v) ∧ Rep K mg F H d v a1) ∧ ∀ o, EL K mg F H (e.set i none) (σ.set i o) (pre ++ post)
  | [], σ, as, i, h => by
    refine ⟨as, [], [], by simp, fun d hd _ => rfl, fun d hd => by simp [getE] at hd, fun o => ?_⟩
    simp only [EL] at h
    simp only [List.set_nil, EL]
    rw [h.1, h.2]
    exact ⟨rfl, rfl⟩
  | none :: e, σ, as, 0, h => by
    refine ⟨as, [], [], by simp, fun d hd _ => rfl, fun d hd => by simp [getE] at hd, fun o => ?_⟩
    simp only [EL] at h
    obtain ⟨o', r, es, h⟩ := h
    subst es
    rw [List.set_cons_zero, List.set_cons_zero]
    simp only [EL]
    exact ⟨o, r, rfl, by simpa using h⟩
  | some d0 :: e, σ, as, 0, h => by
    simp only [EL] at h
    obtain ⟨v, r, a1, a2, ev, ee, h1, h2⟩ := h
    subst ev
    refine ⟨[], a1, a2, by rw [ee]; rfl, fun d hd hp => ?_, fun d hd => ?_, fun o => ?_⟩
    · have q : d0 = d := by simpa [getE] using hd
      subst q
      exact Rep.bare hp h1
    · have q : d0 = d := by simpa [getE] using hd
      subst q
      exact ⟨v, rfl, h1⟩
    · rw [List.set_cons_zero, List.set_cons_zero]
      simp only [EL]
      exact ⟨o, r, rfl, h2⟩
  | none :: e, σ, as, i + 1, h => by
    simp only [EL] at h
    obtain ⟨o', r, es, h⟩ := h
    subst es
    obtain ⟨pre, b1, post, q2, q3, q5, q4⟩ := EL.drop (σ := r) i h
    refine ⟨pre, b1, post, q2, fun d hd => q3 d (by simpa [getE] using hd), fun d hd => q5 d (by simpa [getE] using hd), fun o => ?_⟩
    rw [List.set_cons_succ, List.set_cons_succ]
    simp only [EL]
    exact ⟨o', r.set i o, rfl, q4 o⟩
  | some d0 :: e, σ, as, i + 1, h => by
    simp only [EL] at h
    obtain ⟨v, r, a1, a2, ev, ee, h1, h2⟩ := h
    subst ev
    obtain ⟨pre, b1, post, q2, q3, q5, q4⟩ := EL.drop (σ := r) i h2
    refine ⟨a1 ++ pre, b1, post, by rw [ee, q2]; simp, fun d hd => q3 d (by simpa [getE] using hd), fun d hd => q5 d (by simpa [getE] using hd), fun o => ?_⟩
    rw [List.set_cons_succ, List.set_cons_succ]
    simp only [EL]
    exact ⟨v, r.set i o, a1, pre ++ post, rfl, by simp, h1, q4 o⟩

/-! ### as the library's data -/
mutual
theorem Rep.dp (s : Le F H) : ∀ {d : D} {v : V} {as : List Addr} {p : PyData}, Rep K mg F H d v as → toPy d = some p → Dp K H v p
  | .non, v, as, p, h, e => by
    simp only [Rep] at h; simp only [toPy, Option.some.injEq] at e; rw [h.1, ← e]; exact .non
  | .bl b, v, as, p, h, e => by
    simp only [Rep] at h; simp only [toPy, Option.some.injEq] at e; rw [h.1, ← e]; exact .bl b
  | .int b, v, as, p, h, e => by
    simp only [Rep] at h; simp only [toPy, Option.some.injEq] at e; rw [h.1, ← e]; exact .int b
  | .str b, v, as, p, h, e => by
    simp only [Rep] at h; simp only [toPy, Option.some.injEq] at e; rw [h.1, ← e]; exact .str b
  | .ty _, v, as, p, h, e => by simp [toPy] at e
  | .fn _, v, as, p, h, e => by simp [toPy] at e
  | .cloV _, v, as, p, h, e => by simp [toPy] at e
  | .cloX _ _ _, v, as, p, h, e => by simp [toPy] at e
  | .dic _ _ _, v, as, p, h, e => by simp [toPy] at e
  | .tup ds, v, as, p, h, e => by
    simp only [Rep] at h
    obtain ⟨_, a, vs, ev, hs, hr⟩ := h
    simp only [toPy] at e
    split at e
    · rename_i xs q
      cases e
      subst ev
      exact .tup (s.seqT hs) (ReL.dp s hr q)
    · cases e
  | .lst .own ds, v, as, p, h, e => by
    simp only [Rep] at h
    obtain ⟨a, vs, bs, ev, _, hs, hr⟩ := h
    simp only [toPy] at e
    split at e
    · rename_i xs q
      cases e
      subst ev
      exact .lst (.of hs) (ReL.dp s hr q)
    · cases e
  | .lst .fro ds, v, as, p, h, e => by
    simp only [Rep] at h
    obtain ⟨_, a, vs, ev, hs, hr⟩ := h
    simp only [toPy] at e
    split at e
    · rename_i xs q
      cases e
      subst ev
      exact .lst (.of (s _ _ hs)) (ReL.dp s hr q)
    · cases e
  | .lst .ext ds, v, as, p, h, e => by
    simp only [Rep] at h
    obtain ⟨_, a, vs, ev, hs, hr⟩ := h
    simp only [toPy] at e
    split at e
    · rename_i xs q
      cases e
      subst ev
      exact .lst (s.seqL hs) (ReL.dp s hr q)
    · cases e
theorem ReL.dp (s : Le F H) : ∀ {ds : List D} {vs : List V} {as : List Addr} {ps : List PyData}, ReL K mg F H ds vs as → toPyL ds = some ps → DpAll K H vs ps
  | [], vs, as, ps, h, e => by
    simp only [ReL] at h; simp only [toPyL, Option.some.injEq] at e; rw [h.1, ← e]; exact .nil
  | d :: ds, vs, as, ps, h, e => by
    simp only [ReL] at h
    obtain ⟨v, r, a1, a2, ev, ee, h1, h2⟩ := h
    simp only [toPyL] at e
    split at e
    · rename_i x xs q1 q2
      cases e
      subst ev
      exact .cons (Rep.dp s h1 q1) (ReL.dp s h2 q2)
    · cases e
end
end
end Ev

set_option Elab.async false
set_option linter.all false
set_option maxRecDepth 100000
/-! Ev5: steps of the heap, states, what is to be shown of an expression. -/
namespace Ev
variable [TabsC]
open PySem L2

/-- an object that may be written in passing: no table, no code object -/
def WO (o : HO) : Prop := NT o ∧ ∀ φ, o ≠ .ext φ
theorem tabs_upd {me : Me} {H : Hp} {p : Addr} {o : HO} (h : TC me H) (hp : ∀ u, H p = some u → WO u) : TC me (upd H p o) := by
  have ne : ∀ c u, H c = some u → ¬ WO u → c ≠ p := fun c u e nw z => nw (hp u (by rw [← z]; exact e))
  have nc : ∀ c q, ¬ WO (LamX.CodeO c q) := fun c q w => by
    unfold LamX.CodeO at w
    exact w.2 _ rfl
  refine ⟨fun q hq => ?_, fun q hq => by rw [upd_ne (ne _ _ (h.2 q hq) (nc _ _))]; exact h.2 q hq⟩
  obtain ⟨ps, h1, h2, h3⟩ := h.1 q hq
  refine ⟨ps, by rw [upd_ne (ne _ _ h1 fun w => w.1 ps rfl)]; exact h1, h2, fun pos cv hc => ?_⟩
  obtain ⟨c, e1, e2⟩ := h3 pos cv hc
  exact ⟨c, e1, by rw [upd_ne (ne _ _ e2 (nc _ _))]; exact e2⟩
theorem wo_lst {xs : List V} : WO (.lst xs) := ⟨nt_lst, fun _ h => by cases h⟩
theorem wo_dK {xs : List (Key × V)} : WO (.dK xs) := ⟨nt_dK, fun _ h => by cases h⟩
theorem wo_none {H : Hp} {p : Addr} (h : H p = none) : ∀ u, H p = some u → WO u := fun u e => by rw [h] at e; cases e
theorem wo_at {H : Hp} {p : Addr} {o : HO} (h : H p = some o) (w : WO o) : ∀ u, H p = some u → WO u := fun u e => by rw [h] at e; cases e; exact w
/-- nothing but a table stood there -/
def New (H : Hp) (a : Addr) : Prop := ∀ o, H a = some o → ¬ NT o
theorem New.none {H : Hp} {a : Addr} (h : H a = none) : New H a := fun o e => by rw [h] at e; cases e
theorem New.not {H : Hp} {a : Addr} {o : HO} {p : Prop} (w : New H a) (e : H a = some o) (nt : NT o) : p := (w o e nt).elim
/-- from H to H': what stands outside B is kept; B': what may be touched from then on -/
structure Step (B : List Addr) (H F : Hp) (B' : List Addr) (H' F' : Hp) : Prop where
  le : Le F F'
  keep : ∀ a o, H a = some o → NT o → a ∉ B → H' a = some o
  own : ∀ a ∈ B', a ∈ B ∨ New H a
  fr : ∀ a, F' a ≠ none → F a ≠ none ∨ a ∈ B ∨ New H a
  ax : ∀ me, Ax me F H → Ax me F' H'
theorem Step.refl {B B' : List Addr} {H F : Hp} (h : ∀ a ∈ B', a ∈ B) : Step B H F B' H F :=
  ⟨Le.refl F, fun _ _ e _ _ => e, fun a z => .inl (h a z), fun _ z => .inl z, fun _ h => h⟩
theorem Step.trans {B B1 B2 : List Addr} {H F H1 F1 H2 F2 : Hp} (a : Step B H F B1 H1 F1) (b : Step B1 H1 F1 B2 H2 F2) : Step B H F B2 H2 F2 := by
  have back : ∀ x, New H1 x → x ∈ B ∨ New H x := fun x z => by
    by_cases hb : x ∈ B
    · exact .inl hb
    · exact .inr fun o e nt => z o (a.keep x o e nt hb) nt
  refine ⟨a.le.trans b.le, fun x o e nt n => b.keep x o (a.keep x o e nt n) nt fun z => ?_, fun x z => ?_, fun x z => ?_, fun T h => b.ax T (a.ax T h)⟩
  · rcases a.own x z with q | q
    · exact n q
    · exact q.not e nt
  · rcases b.own x z with q | q
    · exact a.own x q
    · exact back x q
  · rcases b.fr x z with q | q | q
    · exact a.fr x q
    · exact .inr (a.own x q)
    · exact .inr (back x q)
theorem Step.frame {B B' : List Addr} {H F H' F' : Hp} (T : List Addr) (a : Step B H F B' H' F') : Step (T ++ B) H F (T ++ B') H' F' := by
  refine ⟨a.le, fun x o e nt n => a.keep x o e nt fun z => n (List.mem_append_right _ z), fun x z => ?_, fun x z => ?_, a.ax⟩
  · rcases List.mem_append.mp z with q | q
    · exact .inl (List.mem_append_left _ q)
    · exact (a.own x q).imp (List.mem_append_right _) id
  · exact (a.fr x z).imp id (Or.imp (List.mem_append_right _) id)
theorem Step.more {B C B' : List Addr} {H F H' F' : Hp} (a : Step B H F B' H' F') (h : ∀ x ∈ B, x ∈ C) : Step C H F B' H' F' :=
  ⟨a.le, fun x o e nt n => a.keep x o e nt fun z => n (h x z), fun x z => (a.own x z).imp (h x) id, fun x z => (a.fr x z).imp id (Or.imp (h x) id), a.ax⟩
theorem Step.less {B C B' : List Addr} {H F H' F' : Hp} (a : Step B H F B' H' F') (h : ∀ x ∈ C, x ∈ B') : Step B H F C H' F' :=
  ⟨a.le, a.keep, fun x z => a.own x (h x z), a.fr, a.ax⟩
/-- a new object -/
theorem Step.new {B : List Addr} {H F : Hp} {p : Addr} {o : HO} (h : H p = none) : Step B H F (p :: B) (upd H p o) F :=
  ⟨Le.refl F, fun x u e _ _ => by rw [upd_ne (ne_of_none e h)]; exact e, fun x z => (List.mem_cons.mp z).elim (fun q => .inr (.none (by rw [q]; exact h))) .inl, fun _ z => .inl z, fun _ a => ⟨a.1, tabs_upd a.2.1 (wo_none h), a.2.2⟩⟩
/-- a new object that is not written again -/
theorem Step.newF {B : List Addr} {H F : Hp} {p : Addr} {o : HO} (h : H p = none) (hf : F p = none) (nt : NT o := by intro ps h; cases h) : Step B H F B (upd H p o) (upd F p o) :=
  ⟨fun x u e => by rw [upd_ne (ne_of_none e hf)]; exact e, fun x u e _ _ => by rw [upd_ne (ne_of_none e h)]; exact e, fun x z => .inl z, fun x z => by
    by_cases q : x = p
    · exact .inr (.inr (.none (by rw [q]; exact h)))
    · rw [upd_ne q] at z; exact .inl z, fun _ a => ⟨fun x u e => by
    by_cases q : x = p
    · subst q; rw [upd_same] at e; cases e; exact nt
    · rw [upd_ne q] at e; exact a.1 x u e, tabs_upd a.2.1 (wo_none h), a.2.2.trans fun x u e => by rw [upd_ne (ne_of_none e hf)]; exact e⟩⟩
/-- an owned object is written -/
theorem Step.write {B : List Addr} {H F : Hp} {p : Addr} {o u : HO} (h : p ∈ B) (hp : H p = some u) (w : WO u := by first | exact wo_lst | exact wo_dK) : Step B H F B (upd H p o) F :=
  ⟨Le.refl F, fun x u e _ n => by rw [upd_ne (fun q => n (by rw [q]; exact h))]; exact e, fun x z => .inl z, fun _ z => .inl z, fun _ a => ⟨a.1, tabs_upd a.2.1 (wo_at hp w), a.2.2⟩⟩
/-- what is owned is frozen -/
theorem Step.freeze {B as B' : List Addr} {H F : Hp} (s : Le F H) (h : ∀ a ∈ as, a ∈ B) (nt : ∀ a ∈ as, ∀ o, H a = some o → NT o) (h' : ∀ a ∈ B', a ∈ B) : Step B H F B' H (frzAt F H as) :=
  ⟨frzAt_le s, fun _ _ e _ _ => e, fun a z => .inl (h' a z), fun a z => by
    by_cases q : a ∈ as
    · exact .inr (.inl (h a q))
    · rw [frzAt_out q] at z; exact .inl z, fun _ x => ⟨fun a o e => by
    by_cases q : a ∈ as
    · rw [frzAt_in q] at e; exact nt a q o e
    · rw [frzAt_out q] at e; exact x.1 a o e, x.2.1, x.2.2.trans (frzAt_le s)⟩⟩

structure Sta (K : PySem.W.Frag) (mg : Me) (F H : Hp) (σ : St) (e : En) (A : List Addr) : Prop where
  sub : Le F H
  el : EL K mg F H e σ A
  nd : A.Nodup
  no : ∀ a ∈ A, F a = none
  ax : Ax mg F H
theorem Sta.live {K : PySem.W.Frag} {mg : Me} {F H : Hp} {σ : St} {e : En} {A : List Addr} (S : Sta K mg F H σ e A) {a : Addr} (h : a ∈ A) : H a ≠ none := by
  obtain ⟨o, q⟩ := EL.live e σ A S.el a h
  rw [q]; simp
theorem Sta.nt {K : PySem.W.Frag} {mg : Me} {F H : Hp} {σ : St} {e : En} {A : List Addr} (S : Sta K mg F H σ e A) {a : Addr} (h : a ∈ A) {o : HO} (ho : H a = some o) : NT o := EL.nt e σ A S.el a h o ho
theorem Sta.old {K : PySem.W.Frag} {mg : Me} {F H : Hp} {σ : St} {e : En} {A : List Addr} (S : Sta K mg F H σ e A) {a : Addr} (h : a ∈ A) : ¬ New H a := fun w => by
  obtain ⟨o, q⟩ := EL.live e σ A S.el a h
  exact w o q (S.nt h q)
theorem Sta.fresh {K : PySem.W.Frag} {mg : Me} {F H : Hp} {σ : St} {e : En} {A : List Addr} (S : Sta K mg F H σ e A) {p : Addr} (h : H p = none) : F p = none := by
  cases q : F p with
  | none => rfl
  | some o => rw [S.sub p o q] at h; cases h
/-- the state behind a step that does not touch it -/
theorem Sta.past {K : PySem.W.Frag} {mg : Me} {F H F' H' : Hp} {σ : St} {e : En} {A : List Addr} (S : Sta K mg F H σ e A) (s' : Le F' H') (l : Le F F') (k : ∀ a ∈ A, ∀ o, H a = some o → H' a = some o) (n : ∀ a ∈ A, F' a = none) (ax : Ax mg F' H') :
    Sta K mg F' H' σ e A := ⟨s', EL.mono l e σ A k S.el, S.nd, n, ax⟩

/-- the value at the end of a road -/
def PathV (H : Hp) : V → List Nat → V → Prop
  | v0, [], v => v = v0
  | v0, j :: p, v => ∃ a vs v1, v0 = .ref a ∧ H a = some (.lst vs) ∧ vs[j]? = some v1 ∧ PathV H v1 p v
def HanV (H : Hp) (σ : St) (i : Nat) (p : List Nat) (v : V) : Prop := ∃ v0, σ[i]? = some (some v0) ∧ PathV H v0 p v
def ResV (K : PySem.W.Frag) (mg : Me) (F H : Hp) (σ : St) (A : List Addr) (v : V) : RV → List Addr → Prop
  | .val d, as => Rep K mg F H d v as ∧ as.Nodup ∧ ∀ a ∈ as, a ∉ A ∧ F a = none
  | .han i p, as => as = [] ∧ HanV H σ i p v
def flat : RV → Bool
  | .val _ => true
  | .han _ p => p.isEmpty

/-- behind what is raised: the wish, the slots that may change, where one reckons -/
structure WL where
  w : WX
  L : Nat → Prop
  me : Me
/-- an exception: its class, its own fields -/
def XRep (me : Me) (F : Hp) (c : Str) (fs : List (Str × D)) (cls : Value) (d : Option Addr) : Prop :=
  ∃ C, cls = .ref C ∧ me.of c = some (.ref C) ∧ ((fs = [] ∧ d = none) ∨ ∃ dd vfs, d = some dd ∧ F dd = some (.xd vfs) ∧ vfs.map (·.1) = fs.map (·.1) ∧ ReL me.K me F F (fs.map (·.2)) (vfs.map (·.2)) [])
theorem XRep.mono {me : Me} {F F' : Hp} {c : Str} {fs : List (Str × D)} {cls : Value} {d : Option Addr} (l : Le F F') (h : XRep me F c fs cls d) : XRep me F' c fs cls d := by
  obtain ⟨C, h1, h2, h3⟩ := h
  refine ⟨C, h1, h2, h3.imp id ?_⟩
  rintro ⟨dd, vfs, e1, e2, e3, r⟩
  exact ⟨dd, vfs, e1, l _ _ e2, e3, ReL.mono l _ _ _ (fun _ z => absurd z (by simp)) r⟩
/-- no slot but those is another -/
def Off (P : Nat → Prop) (σ σ' : St) : Prop := σ'.length = σ.length ∧ ∀ j, ¬ P j → σ'[j]? = σ[j]?
theorem Off.refl (P : Nat → Prop) (σ : St) : Off P σ σ := ⟨rfl, fun _ _ => rfl⟩
theorem Off.trans {P : Nat → Prop} {σ σ1 σ2 : St} (a : Off P σ σ1) (b : Off P σ1 σ2) : Off P σ σ2 := ⟨b.1.trans a.1, fun j h => (b.2 j h).trans (a.2 j h)⟩
/-- a slot that may be stored -/
def LocS (G : Cn) (j : Nat) : Prop := ∃ x, slotOf G.N x = some j ∧ G.loc x = true ∧ G.bor.contains j = false
/-- an exception on its way: the wish holds wherever it stands so -/
def ErrP (K : PySem.W.Frag) (W : WL) (σ : St) (B : List Addr) (H F : Hp) (c : Str) (fs : List (Str × D)) (e : En) : Prop :=
  ∀ cls d σ' H' F' A', XRep W.me F' c fs cls d → Step B H F A' H' F' → Sta K W.me F' H' σ' e A' → Off W.L σ σ' → W.w cls d σ' H'
theorem ErrP.past {K : PySem.W.Frag} {W : WL} {σ : St} {B B' : List Addr} {H F H' F' : Hp} {c : Str} {fs : List (Str × D)} {e : En} (st : Step B H F B' H' F') (h : ErrP K W σ B H F c fs e) : ErrP K W σ B' H' F' c fs e :=
  fun cls d σ' H2 F2 A2 x s S o => h cls d σ' H2 F2 A2 x (st.trans s) S o
theorem ErrP.off {K : PySem.W.Frag} {W : WL} {σ σ1 : St} {B : List Addr} {H F : Hp} {c : Str} {fs : List (Str × D)} {e : En} (o : Off W.L σ σ1) (h : ErrP K W σ B H F c fs e) : ErrP K W σ1 B H F c fs e :=
  fun cls d σ' H2 F2 A2 x s S o' => h cls d σ' H2 F2 A2 x s S (o.trans o')
theorem ErrP.before {K : PySem.W.Frag} {W : WL} {σ : St} {B T A : List Addr} {H F H' F' : Hp} {c : Str} {fs : List (Str × D)} {e : En} (st : Step B H F (T ++ A) H' F') (h : ErrP K W σ B H F c fs e) : ErrP K W σ A H' F' c fs e := ErrP.past (st.less fun _ z => List.mem_append_right _ z) h
def PostG {β : Type} (K : PySem.W.Frag) (W : WL) (σ : St) (B : List Addr) (H F : Hp) (r : R β) (φ : β → Prop) : Prop := match r with
  | .ok b => φ b
  | .err c fs e => ErrP K W σ B H F c fs e
  | .stuck => False
def OkE (K : PySem.W.Frag) (mg : Me) (σ : St) (B : List Addr) (H F : Hp) (Q : VK) : RV × En → Prop := fun x =>
  ∀ v H' F' A' as, Step B H F (as ++ A') H' F' → Sta K mg F' H' σ x.2 A' → ResV K mg F' H' σ A' v x.1 as → Q v H'
def tE (K : PySem.W.Frag) (mg : Me) (W : WL) (f : En → R (RV × En)) : TE := fun σ H Q =>
  ∃ e F A, Sta K mg F H σ e A ∧ PostG K W σ A H F (f e) (OkE K mg σ A H F Q)
def OkT (K : PySem.W.Frag) (mg : Me) (σ : St) (B : List Addr) (H F : Hp) (Q : Bool → Hp → Prop) : Bool × En → Prop := fun x =>
  ∀ H' F' A', Step B H F A' H' F' → Sta K mg F' H' σ x.2 A' → Q x.1 H'
def tT (K : PySem.W.Frag) (mg : Me) (W : WL) (f : En → R (Bool × En)) : TT := fun σ H Q =>
  ∃ e F A, Sta K mg F H σ e A ∧ PostG K W σ A H F (f e) (OkT K mg σ A H F Q)
/-- several values -/
def ResVs (K : PySem.W.Frag) (mg : Me) (F H : Hp) (σ : St) (A : List Addr) : List V → List RV → List Addr → Prop
  | vs, [], as => vs = [] ∧ as = []
  | vs, rv :: rvs, as => ∃ v r a1 a2, vs = v :: r ∧ as = a1 ++ a2 ∧ flat rv = true ∧ ResV K mg F H σ A v rv a1 ∧ ResVs K mg F H σ A r rvs a2 ∧ ∀ a ∈ a1, a ∉ a2
def OkA (K : PySem.W.Frag) (mg : Me) (σ : St) (B : List Addr) (H F : Hp) (Q : List V → Hp → Prop) : List RV × En → Prop := fun x =>
  ∀ vs H' F' A' as, Step B H F (as ++ A') H' F' → Sta K mg F' H' σ x.2 A' → ResVs K mg F' H' σ A' vs x.1 as → Q vs H'
def tA (K : PySem.W.Frag) (mg : Me) (W : WL) (f : En → R (List RV × En)) : TA := fun σ H Q =>
  ∃ e F A, Sta K mg F H σ e A ∧ PostG K W σ A H F (f e) (OkA K mg σ A H F Q)

section
variable {K : PySem.W.Frag} {mg : Me} {F H F' H' : Hp} {σ : St} {e e' : En} {A A' B : List Addr}
/-- a value that was reckoned before stands behind a step of the state -/
theorem ResV.past {v : V} {rv : RV} {as as' : List Addr} (h : ResV K mg F H σ A v rv as) (fl : flat rv = true) (st : Step A H F (as' ++ A') H' F') : ResV K mg F' H' σ A' v rv as ∧ ∀ a ∈ as, a ∉ as' := by
  cases rv with
  | han i p =>
    obtain ⟨e, v0, h1, h2⟩ := h
    have hp : p = [] := by simpa [flat] using fl
    subst hp
    exact ⟨⟨e, v0, h1, h2⟩, fun a z => by rw [e] at z; exact absurd z (by simp)⟩
  | val d =>
    obtain ⟨h1, h2, h3⟩ := h
    have lv := Rep.live d v as h1
    have out : ∀ a ∈ as, a ∉ as' ++ A' := fun a z q => by
      rcases st.own a q with w | w
      · exact (h3 a z).1 w
      · obtain ⟨o, ho⟩ := lv a z
        exact w.not ho (Rep.nt d v as h1 a z o ho)
    refine ⟨⟨Rep.mono st.le d v as (fun a z o ho => st.keep a o ho (Rep.nt d v as h1 a z o ho) (h3 a z).1) h1, h2, fun a z => ⟨fun q => out a z (List.mem_append_right _ q), ?_⟩⟩, fun a z q => out a z (List.mem_append_left _ q)⟩
    cases q : F' a with
    | none => rfl
    | some o =>
      rcases st.fr a (by rw [q]; simp) with w | w | w
      · exact absurd (h3 a z).2 w
      · exact absurd w (h3 a z).1
      · obtain ⟨o', ho⟩ := lv a z
        exact w.not ho (Rep.nt d v as h1 a z _ ho)
theorem ResVs.past : ∀ {rvs : List RV} {vs : List V} {as as' : List Addr}, ResVs K mg F H σ A vs rvs as → Step A H F (as' ++ A') H' F' → ResVs K mg F' H' σ A' vs rvs as ∧ ∀ a ∈ as, a ∉ as'
  | [], vs, as, as', h, st => by
    simp only [ResVs] at h ⊢
    exact ⟨h, fun a z => by rw [h.2] at z; exact absurd z (by simp)⟩
  | rv :: rvs, vs, as, as', h, st => by
    simp only [ResVs] at h ⊢
    obtain ⟨v, r, a1, a2, e1, e2, fl, h1, h2, dj⟩ := h
    obtain ⟨q1, q2⟩ := h1.past fl st
    obtain ⟨q3, q4⟩ := ResVs.past h2 st
    refine ⟨⟨v, r, a1, a2, e1, e2, fl, q1, q3, dj⟩, fun a z => ?_⟩
    rw [e2] at z
    exact (List.mem_append.mp z).elim (q2 a) (q4 a)
/-- what a value holds -/
theorem path_rep : ∀ {p : List Nat} {d0 d : D} {v0 v : V} {as : List Addr}, Rep K mg F H d0 v0 as → part d0 p = some d → PathV H v0 p v → ∃ a1, Rep K mg F H d v a1 ∧ ∀ a ∈ a1, a ∈ as
  | [], d0, d, v0, v, as, h, hp, hv => by
    simp only [part, Option.some.injEq] at hp
    subst hp
    have hv' : v = v0 := hv
    subst hv'
    exact ⟨as, h, fun _ z => z⟩
  | j :: p, d0, d, v0, v, as, h, hp, hv => by
    obtain ⟨ds, e0⟩ : ∃ ds, d0 = .lst .own ds := by
      cases d0 with
      | lst m ds =>
        cases m with
        | own => exact ⟨ds, rfl⟩
        | fro => simp [part] at hp
        | ext => simp [part] at hp
      | _ => simp [part] at hp
    subst e0
    simp only [part] at hp
    split at hp
    · rename_i d1 hd
      simp only [Rep] at h
      obtain ⟨a, vs, bs, ev, ea, ha, hr⟩ := h
      obtain ⟨a', vs', v1, ev', ha', hj, hpv⟩ := hv
      rw [ev] at ev'
      cases ev'
      rw [ha] at ha'
      cases ha'
      obtain ⟨w, pre, b1, post, q1, q2, q3, _⟩ := ReL.at hr hd
      rw [hj] at q1
      cases q1
      obtain ⟨c1, r1, r2⟩ := path_rep q3 hp hpv
      refine ⟨c1, r1, fun x z => ?_⟩
      rw [ea, q2]
      simp [r2 x z]
    · cases hp
theorem ResV.content {v : V} {rv : RV} {as : List Addr} {d : D} (S : Sta K mg F H σ e A) (h : ResV K mg F H σ A v rv as) (hc : content e rv = some d) : ∃ a1, Rep K mg F H d v a1 ∧ ∀ a ∈ a1, a ∈ as ++ A := by
  cases rv with
  | val d' =>
    simp only [Ev.content, Option.some.injEq] at hc
    subst hc
    exact ⟨as, h.1, fun a z => List.mem_append_left _ z⟩
  | han i p =>
    simp only [Ev.content] at hc
    split at hc
    · rename_i d0 hd
      obtain ⟨_, v0, h1, h2⟩ := h
      obtain ⟨w, pre, a1, post, q1, q2, q3, _⟩ := EL.at S.el hd
      rw [h1] at q1
      cases q1
      obtain ⟨c1, r1, r2⟩ := path_rep q3 hc h2
      refine ⟨c1, r1, fun a z => List.mem_append_right _ ?_⟩
      rw [q2]
      simp [r2 a z]
    · cases hc
end

section
variable {X : Cx} {W : WL} {pins : List (Addr × Obj)} {σ : St} {H F H0 F0 : Hp} {s : Shared} {e : En} {A B0 T : List Addr} {x : Expr} {P : Value → Shared → Prop} {β : Type} {φ : β → Prop}
/-- an expression is reckoned, then the rest -/
theorem seqE {f : En → R (RV × En)} (h : PE X x (tE X.K W.me W f)) (I : Inv X pins σ H s) (S : Sta X.K W.me F H σ e A) {g : RV × En → R β} (st0 : Step B0 H0 F0 (T ++ A) H F)
    (post : PostG X.K W σ B0 H0 F0 ((f e).bind g) φ)
    (k : ∀ rv e', f e = .ok (rv, e') → ∀ v u s' H' F' A' as, Inv X pins σ H' s' → RelV v u → Step A H F (as ++ A') H' F' → Step B0 H0 F0 (T ++ (as ++ A')) H' F' → Sta X.K W.me F' H' σ e' A' → ResV X.K W.me F' H' σ A' v rv as →
      PostG X.K W σ B0 H0 F0 (g (rv, e')) φ → P u s') : wpAny (model X.prog X.w) X.A (eval x X.env) P X.xe s := by
  cases hf : f e with
  | ok y =>
    obtain ⟨rv, e'⟩ := y
    rw [hf] at post
    refine thn (h.run pins s σ H (fun v H' => ∃ F' A' as, Step A H F (as ++ A') H' F' ∧ Sta X.K W.me F' H' σ e' A' ∧ ResV X.K W.me F' H' σ A' v rv as) I ⟨e, F, A, S, ?_⟩) fun u s' hh => ?_
    · rw [hf]
      exact fun v H' F' A' as h1 h2 h3 => ⟨F', A', as, h1, h2, h3⟩
    · obtain ⟨v, H', I', r, F', A', as, h1, h2, h3⟩ := hh
      exact k rv e' hf v u s' H' F' A' as I' r h1 (st0.trans (h1.frame T)) h2 h3 post
  | err c fs e' =>
    rw [hf] at post
    refine thn (h.run pins s σ H (fun _ _ => False) I ⟨e, F, A, S, ?_⟩) fun u s' ⟨_, _, _, _, z⟩ => z.elim
    rw [hf]
    exact ErrP.before st0 post
  | stuck => rw [hf] at post; exact post.elim
theorem seqT {f : En → R (Bool × En)} (h : PT X x (tT X.K W.me W f)) (I : Inv X pins σ H s) (S : Sta X.K W.me F H σ e A) {g : Bool × En → R β} {P : Bool → Shared → Prop} (st0 : Step B0 H0 F0 (T ++ A) H F)
    (post : PostG X.K W σ B0 H0 F0 ((f e).bind g) φ)
    (k : ∀ b e', f e = .ok (b, e') → ∀ s' H' F' A', Inv X pins σ H' s' → Step A H F A' H' F' → Step B0 H0 F0 (T ++ A') H' F' → Sta X.K W.me F' H' σ e' A' → PostG X.K W σ B0 H0 F0 (g (b, e')) φ → P b s') :
    wpAny (model X.prog X.w) X.A (isTrue x X.env (eval x X.env)) P X.xe s := by
  cases hf : f e with
  | ok y =>
    obtain ⟨b, e'⟩ := y
    rw [hf] at post
    refine thn (h.run pins s σ H (fun v H' => v = b ∧ ∃ F' A', Step A H F A' H' F' ∧ Sta X.K W.me F' H' σ e' A') I ⟨e, F, A, S, ?_⟩) fun u s' hh => ?_
    · rw [hf]
      exact fun H' F' A' h1 h2 => ⟨rfl, F', A', h1, h2⟩
    · obtain ⟨H', I', r, F', A', h1, h2⟩ := hh
      subst r
      exact k u e' hf s' H' F' A' I' h1 (st0.trans (h1.frame T)) h2 post
  | err c fs e' =>
    rw [hf] at post
    refine thn (h.run pins s σ H (fun _ _ => False) I ⟨e, F, A, S, ?_⟩) fun u s' ⟨_, _, z⟩ => z.elim
    rw [hf]
    exact ErrP.before st0 post
  | stuck => rw [hf] at post; exact post.elim
theorem seqA {es : List Expr} {f : En → R (List RV × En)} {pos : Pos} (h : PA X es (tA X.K W.me W f)) (I : Inv X pins σ H s) (S : Sta X.K W.me F H σ e A) {g : List RV × En → R β} {P : List Value → Shared → Prop} (st0 : Step B0 H0 F0 (T ++ A) H F)
    (post : PostG X.K W σ B0 H0 F0 ((f e).bind g) φ)
    (k : ∀ rvs e', f e = .ok (rvs, e') → ∀ vs us s' H' F' A' as, Inv X pins σ H' s' → Vals vs us → Step A H F (as ++ A') H' F' → Step B0 H0 F0 (T ++ (as ++ A')) H' F' → Sta X.K W.me F' H' σ e' A' → ResVs X.K W.me F' H' σ A' vs rvs as →
      PostG X.K W σ B0 H0 F0 (g (rvs, e')) φ → P us s') : wpAny (model X.prog X.w) X.A (spliced (backTo pos (starEach es X.env))) P X.xe s := by
  cases hf : f e with
  | ok y =>
    obtain ⟨rvs, e'⟩ := y
    rw [hf] at post
    refine thn (h.run pos pins s σ H (fun vs H' => ∃ F' A' as, Step A H F (as ++ A') H' F' ∧ Sta X.K W.me F' H' σ e' A' ∧ ResVs X.K W.me F' H' σ A' vs rvs as) I ⟨e, F, A, S, ?_⟩) fun u s' hh => ?_
    · rw [hf]
      exact fun v H' F' A' as h1 h2 h3 => ⟨F', A', as, h1, h2, h3⟩
    · obtain ⟨v, H', I', r, F', A', as, h1, h2, h3⟩ := hh
      exact k rvs e' hf v u s' H' F' A' as I' r h1 (st0.trans (h1.frame T)) h2 h3 post
  | err c fs e' =>
    rw [hf] at post
    refine thn (h.run pos pins s σ H (fun _ _ => False) I ⟨e, F, A, S, ?_⟩) fun u s' ⟨_, _, _, _, z⟩ => z.elim
    rw [hf]
    exact ErrP.before st0 post
  | stuck => rw [hf] at post; exact post.elim
end
end Ev

set_option Elab.async false
set_option linter.all false
set_option maxRecDepth 100000
set_option maxHeartbeats 1000000
/-! Ev6: operators and built-in functions, by values. -/
namespace Ev
variable [TabsC]
open PySem L2

/-- a datum comes, nothing is written -/
def Gv (K : PySem.W.Frag) (mg : Me) (H F : Hp) (d : D) (Q : VK) : Prop :=
  ∀ v H' F' cs, Step [] H F cs H' F' → Le F' H' → Rep K mg F' H' d v cs → cs.Nodup → (∀ a ∈ cs, F' a = none) → Q v H'
section
variable {K : PySem.W.Frag} {mg : Me} {F H : Hp} {Q : VK}
theorem Gv.same {d : D} {v : V} (g : Gv K mg H F d Q) (s : Le F H) (r : Rep K mg F H d v []) : Q v H :=
  g v H F [] (Step.refl fun _ z => z) s r .nil fun _ z => absurd z (by simp)
theorem Gv.int {i : Int} (g : Gv K mg H F (.int i) Q) (s : Le F H) : Q (.int i) H := g.same s (by simp [Rep])
theorem Gv.bl {i : Bool} (g : Gv K mg H F (.bl i) Q) (s : Le F H) : Q (.bl i) H := g.same s (by simp [Rep])
theorem Gv.str {i : Str} (g : Gv K mg H F (.str i) Q) (s : Le F H) : Q (.str i) H := g.same s (by simp [Rep])
theorem Gv.tupNew {ds : List D} {vs : List V} {p : Addr} (g : Gv K mg H F (.tup ds) Q) (s : Le F H) (r : ReL K mg F H ds vs []) (h : H p = none) : Q (.ref p) (upd H p (.tup vs)) := by
  have hf : F p = none := by
    cases q : F p with
    | none => rfl
    | some o => rw [s p o q] at h; cases h
  have st := Step.newF (B := []) (o := .tup vs) h hf
  refine g (.ref p) _ _ [] st (fun a o e => ?_) ?_ .nil fun _ z => absurd z (by simp)
  · by_cases q : a = p
    · subst q; rw [upd_same] at e ⊢; exact e
    · rw [upd_ne q] at e ⊢; exact s a o e
  · simp only [Rep]
    exact ⟨trivial, p, vs, rfl, .inl (.inl upd_same), ReL.mono st.le ds vs [] (fun _ z => absurd z (by simp)) r⟩
theorem Gv.lstNew {ds : List D} {vs : List V} {p : Addr} (g : Gv K mg H F (.lst .own ds) Q) (s : Le F H) (r : ReL K mg F H ds vs []) (h : H p = none) : Q (.ref p) (upd H p (.lst vs)) := by
  have hf : F p = none := by
    cases q : F p with
    | none => rfl
    | some o => rw [s p o q] at h; cases h
  have st := Step.new (B := []) (F := F) (o := .lst vs) h
  refine g (.ref p) _ F [p] st (fun a o e => ?_) ?_ (by simp) fun a z => ?_
  · rw [upd_ne (ne_of_none (s a o e) h)]; exact s a o e
  · simp only [Rep]
    exact ⟨p, vs, [], rfl, rfl, upd_same, ReL.mono (Le.refl F) ds vs [] (fun _ z => absurd z (by simp)) r⟩
  · have q : a = p := by simpa using z
    rw [q]; exact hf

theorem rep_int {i : Int} {v : V} {as : List Addr} (h : Rep K mg F H (.int i) v as) : v = .int i := by simp only [Rep] at h; exact h.1
theorem rep_bl {i : Bool} {v : V} {as : List Addr} (h : Rep K mg F H (.bl i) v as) : v = .bl i := by simp only [Rep] at h; exact h.1
theorem rep_str {i : Str} {v : V} {as : List Addr} (h : Rep K mg F H (.str i) v as) : v = .str i := by simp only [Rep] at h; exact h.1
theorem rep_non {v : V} {as : List Addr} (h : Rep K mg F H .non v as) : v = .non := by simp only [Rep] at h; exact h.1
theorem rep_ty {n : String} {v : V} {as : List Addr} (h : Rep K mg F H (.ty n) v as) : v = .ty n := by simp only [Rep] at h; exact h.1
theorem rep_tup {ds : List D} {v : V} {as : List Addr} (h : Rep K mg F H (.tup ds) v as) : ∃ a vs, v = .ref a ∧ SqT K F a vs ∧ ReL K mg F H ds vs [] := by simp only [Rep] at h; exact h.2
/-- a list that is read, whoever may write it -/
theorem rep_lst {m : Mk} {ds : List D} {v : V} {as : List Addr} (s : Le F H) (h : Rep K mg F H (.lst m ds) v as) : ∃ a vs bs, v = .ref a ∧ SqL K H a vs ∧ ReL K mg F H ds vs bs ∧ (m ≠ .ext → H a = some (.lst vs)) := by
  cases m with
  | own =>
    simp only [Rep] at h
    obtain ⟨a, vs, bs, ev, _, hs, hr⟩ := h
    exact ⟨a, vs, bs, ev, .of hs, hr, fun _ => hs⟩
  | fro =>
    simp only [Rep] at h
    obtain ⟨_, a, vs, ev, hs, hr⟩ := h
    exact ⟨a, vs, [], ev, .of (s _ _ hs), hr, fun _ => s _ _ hs⟩
  | ext =>
    simp only [Rep] at h
    obtain ⟨_, a, vs, ev, hs, hr⟩ := h
    exact ⟨a, vs, [], ev, s.seqL hs, hr, fun z => absurd rfl z⟩
theorem rel_plain {ds : List D} {vs : List V} {as : List Addr} (p : plainL ds = true) (h : ReL K mg F H ds vs as) : ReL K mg F H ds vs [] := by
  rw [ReL.bare p h] at h; exact h
theorem rel_append : ∀ {ds es : List D} {vs ws : List V} {as bs : List Addr}, ReL K mg F H ds vs as → ReL K mg F H es ws bs → ReL K mg F H (ds ++ es) (vs ++ ws) (as ++ bs)
  | [], es, vs, ws, as, bs, h, k => by
    simp only [ReL] at h
    rw [h.1, h.2]; exact k
  | d :: ds, es, vs, ws, as, bs, h, k => by
    simp only [ReL] at h
    obtain ⟨v, r, a1, a2, ev, e, h1, h2⟩ := h
    rw [ev, e]
    simp only [List.cons_append, ReL]
    exact ⟨v, r ++ ws, a1, a2 ++ bs, rfl, by simp, h1, rel_append h2 k⟩
theorem rel_take : ∀ {ds : List D} {vs : List V} (n : Nat), ReL K mg F H ds vs [] → ReL K mg F H (ds.take n) (vs.take n) []
  | [], vs, n, h => by simp only [ReL] at h; rw [h.1]; simp [ReL]
  | d :: ds, vs, 0, h => by simp [ReL]
  | d :: ds, vs, n + 1, h => by
    simp only [ReL] at h
    obtain ⟨v, r, a1, a2, ev, e, h1, h2⟩ := h
    obtain ⟨e1, e2⟩ := List.append_eq_nil_iff.mp e.symm
    subst e1; subst e2; subst ev
    simp only [List.take_succ_cons, ReL]
    exact ⟨v, r.take n, [], [], rfl, rfl, h1, rel_take n h2⟩
theorem rel_drop : ∀ {ds : List D} {vs : List V} (n : Nat), ReL K mg F H ds vs [] → ReL K mg F H (ds.drop n) (vs.drop n) []
  | [], vs, n, h => by simp only [ReL] at h; rw [h.1]; simp [ReL]
  | d :: ds, vs, 0, h => h
  | d :: ds, vs, n + 1, h => by
    simp only [ReL] at h
    obtain ⟨v, r, a1, a2, ev, e, h1, h2⟩ := h
    obtain ⟨e1, e2⟩ := List.append_eq_nil_iff.mp e.symm
    subst e1; subst e2; subst ev
    exact rel_drop n h2
theorem rel_rep {ds : List D} {vs : List V} (h : ReL K mg F H ds vs []) : ∀ n : Nat, ReL K mg F H (List.replicate n ds).flatten (List.replicate n vs).flatten []
  | 0 => by simp [ReL]
  | n + 1 => by
    rw [List.replicate_succ, List.replicate_succ, List.flatten_cons, List.flatten_cons]
    exact rel_append (as := []) (bs := []) h (rel_rep h n)
theorem rel_rev : ∀ {ds : List D} {vs : List V}, ReL K mg F H ds vs [] → ReL K mg F H ds.reverse vs.reverse []
  | [], vs, h => by simp only [ReL] at h; rw [h.1]; simp [ReL]
  | d :: ds, vs, h => by
    simp only [ReL] at h
    obtain ⟨v, r, a1, a2, ev, e, h1, h2⟩ := h
    obtain ⟨e1, e2⟩ := List.append_eq_nil_iff.mp e.symm
    subst e1; subst e2; subst ev
    rw [List.reverse_cons, List.reverse_cons]
    exact rel_append (as := []) (bs := []) (rel_rev h2) (by simp only [ReL]; exact ⟨v, [], [], [], rfl, rfl, h1, rfl, rfl⟩)
theorem rel_bools : ∀ {ds : List D} {bs : List Bool} {vs : List V} {as : List Addr}, bools ds = some bs → ReL K mg F H ds vs as → vs = bs.map V.bl
  | [], bs, vs, as, e, h => by
    simp only [bools, Option.some.injEq] at e
    simp only [ReL] at h
    rw [← e, h.1]; rfl
  | d :: ds, bs, vs, as, e, h => by
    cases d <;> simp only [bools] at e <;> try cases e
    rename_i b
    simp only [ReL] at h
    obtain ⟨v, r, a1, a2, ev, ee, h1, h2⟩ := h
    split at e
    · rename_i cs q
      cases e
      rw [ev, rep_bl h1, rel_bools q h2]; rfl
    · cases e
end

section
variable {X : Cx} {me : Me} {pins : List (Addr × Obj)} {σ : St} {s : Shared} {F H : Hp} {x y : V} {u w : Value} {a b d : D} {as bs : List Addr} {Q : VK} {k : Nat}
theorem powOk_ok {i j : Int} (h : powOk i j = true) : 0 ≤ j ∧ (Builtin.Int.intBits i : Int) * j ≤ 2 ^ 27 := by
  simp only [powOk, Bool.and_eq_true, decide_eq_true_eq] at h; exact h
theorem mulOk_ok {i j : Int} (h : mulOk i j = true) : CMulW i j := of_decide_eq_true (p := i.natAbs.log2 + j.natAbs.log2 < big) h
theorem op_powG : OpR X (binaryOp .Pow) (rI (fun i j => 0 ≤ j ∧ (Builtin.Int.intBits i : Int) * j ≤ 2 ^ 27) fun i j => .int (i ^ j.toNat)) := opI fun _ _ _ _ _ _ _ hc q => PyProof.Rows.pow_int hc.1 hc.2 q
/-- an operator -/
theorem binop_ok {op : Operator} (I : Inv X pins σ H s) (r1 : RelV x u) (r2 : RelV y w) (sub : Le F H) (ha : Rep X.K me F H a x as) (hb : Rep X.K me F H b y bs) (e : binop op a b = some d) (g : Gv X.K me H F d Q) :
    wpAny (model X.prog X.w) X.A (binaryOp op u w) (EP X pins σ Q) X.xe s := by
  unfold binop at e
  split at e
  · cases e
    exact op_add pins s σ H x y u w Q I r1 r2 ⟨_, _, rep_int ha, rep_int hb, g.int sub⟩
  · cases e
    exact op_sub pins s σ H x y u w Q I r1 r2 ⟨_, _, rep_int ha, rep_int hb, g.int sub⟩
  · split at e
    · rename_i c
      cases e
      exact op_mulW pins s σ H x y u w Q I r1 r2 ⟨_, _, rep_int ha, rep_int hb, mulOk_ok c, g.int sub⟩
    · cases e
  · split at e
    · rename_i c
      cases e
      simp only [divOk, Bool.and_eq_true, decide_eq_true_eq] at c
      exact op_fdivW pins s σ H x y u w Q I r1 r2 ⟨_, _, rep_int ha, rep_int hb, c, g.int sub⟩
    · cases e
  · split at e
    · rename_i c
      cases e
      exact op_mod pins s σ H x y u w Q I r1 r2 ⟨_, _, rep_int ha, rep_int hb, c, g.int sub⟩
    · cases e
  · split at e
    · rename_i c
      cases e
      exact op_powG pins s σ H x y u w Q I r1 r2 ⟨_, _, rep_int ha, rep_int hb, powOk_ok c, g.int sub⟩
    · cases e
  · split at e
    · rename_i c
      cases e
      exact op_add_str pins s σ H x y u w Q I r1 r2 ⟨_, _, rep_str ha, rep_str hb, of_decide_eq_true c, g.str sub⟩
    · cases e
  · rename_i xs ys
    split at e
    · rename_i c
      cases e
      obtain ⟨a1, vs, ev, hs, hr⟩ := rep_tup ha
      obtain ⟨b1, ws, ew, ht, hq⟩ := rep_tup hb
      have l1 := hr.length
      have l2 := hq.length
      refine op_catA pins s σ H x y u w Q I r1 r2 ⟨a1, b1, vs, ws, ev, ew, sub.seqT hs, sub.seqT ht, ?_, fun z => ?_, fun _ z => ?_, fun _ _ p hp => ?_⟩
      · rw [← l1, ← l2]; exact of_decide_eq_true c
      · have z' : xs = [] := List.length_eq_zero_iff.mp (by rw [l1, z]; rfl)
        subst z'
        refine g.same sub ?_
        simp only [Rep, List.nil_append]
        exact ⟨trivial, b1, ws, rfl, ht, hq⟩
      · have z' : ys = [] := List.length_eq_zero_iff.mp (by rw [l2, z]; rfl)
        subst z'
        refine g.same sub ?_
        simp only [Rep, List.append_nil]
        exact ⟨trivial, a1, vs, rfl, hs, hr⟩
      · exact g.tupNew sub (rel_append (as := []) (bs := []) hr hq) hp
    · cases e
  · rename_i m xs n ys
    split at e
    · rename_i c
      cases e
      simp only [Bool.and_eq_true, decide_eq_true_eq, ne_eq] at c
      obtain ⟨⟨⟨⟨c1, c2⟩, c3⟩, c4⟩, c5⟩ := c
      obtain ⟨a1, vs, as1, ev, _, hr, hs⟩ := rep_lst sub ha
      obtain ⟨b1, ws, bs1, ew, _, hq, ht⟩ := rep_lst sub hb
      refine op_cat pins s σ H x y u w Q I r1 r2 ⟨a1, b1, vs, ws, ev, ew, hs c1, ht c2, ?_, fun p hp => ?_⟩
      · rw [← hr.length, ← hq.length]; exact of_decide_eq_true c5
      · exact g.lstNew sub (rel_append (as := []) (bs := []) (rel_plain c3 hr) (rel_plain c4 hq)) hp
    · cases e
  · rename_i xs k
    split at e
    · rename_i c
      cases e
      simp only [Bool.and_eq_true, decide_eq_true_eq, Bool.not_eq_true', List.isEmpty_eq_false_iff] at c
      obtain ⟨⟨⟨c1, c2⟩, c3⟩, c4⟩ := c
      obtain ⟨a1, vs, ev, hs, hr⟩ := rep_tup ha
      refine op_repT pins s σ H x y u w Q I r1 r2 ⟨a1, k, vs, ev, rep_int hb, sub.seqT hs, fun z => c3 (List.length_eq_zero_iff.mp (by rw [hr.length, z]; rfl)), c1, c2, by rw [← hr.length]; exact c4, fun p hp => ?_⟩
      exact g.tupNew sub (rel_rep hr _) hp
    · cases e
  · rename_i m xs k
    split at e
    · rename_i c
      cases e
      simp only [Bool.and_eq_true, decide_eq_true_eq, ne_eq] at c
      obtain ⟨⟨⟨⟨c1, c2⟩, c3⟩, c4⟩, c5⟩ := c
      obtain ⟨a1, vs, as1, ev, _, hr, hs⟩ := rep_lst sub ha
      refine op_rep pins s σ H x y u w Q I r1 r2 ⟨a1, k, vs, ev, rep_int hb, hs c1, by omega, c4, by rw [← hr.length]; exact of_decide_eq_true c5, fun p hp => ?_⟩
      exact g.lstNew sub (rel_rep (rel_plain c2 hr) _) hp
    · cases e
  · cases e

theorem eqD_ok {p : Bool} (e : eqD a b = some p) (sub : Le F H) (ha : Rep X.K me F H a x as) (hb : Rep X.K me F H b y bs) : ∃ d1 d2, Dp X.K H x d1 ∧ Dp X.K H y d2 ∧ SeqAt.shaped d1 = true ∧ SeqAt.shaped d2 = true ∧ PyData.eqv d1 d2 = p := by
  unfold eqD at e
  split at e
  · rename_i d1 d2 q1 q2
    split at e
    · rename_i c
      cases e
      rw [Bool.and_eq_true] at c
      exact ⟨d1, d2, Rep.dp sub ha q1, Rep.dp sub hb q2, c.1, c.2, rfl⟩
    · cases e
  · cases e
theorem non_dec {v : V} (h : Rep X.K me F H a v as) : decide (v = .non) = isNon a := by
  cases a with
  | non => rw [rep_non h]; rfl
  | bl _ => rw [rep_bl h]; rfl
  | int _ => rw [rep_int h]; rfl
  | str _ => rw [rep_str h]; rfl
  | ty _ => rw [rep_ty h]; rfl
  | fn _ => simp only [Rep] at h; obtain ⟨_, p, e, _⟩ := h; rw [e]; rfl
  | cloV _ => simp only [Rep] at h; obtain ⟨_, _, p, e, _⟩ := h; rw [e]; rfl
  | cloX _ _ _ => simp only [Rep] at h; obtain ⟨_, _, p, e, _⟩ := h; rw [e]; rfl
  | tup _ => obtain ⟨p, _, e, _⟩ := rep_tup h; rw [e]; rfl
  | lst m _ => cases m <;> simp only [Rep] at h <;> first
    | (obtain ⟨p, _, _, e, _⟩ := h; rw [e]; rfl)
    | (obtain ⟨_, p, _, e, _⟩ := h; rw [e]; rfl)
  | dic m _ _ => cases m <;> simp only [Rep] at h <;> first
    | (obtain ⟨p, _, _, e, _⟩ := h; rw [e]; rfl)
    | (obtain ⟨_, p, _, e, _⟩ := h; rw [e]; rfl)
theorem flat_ok {v : V} (h : Rep X.K me F H a v as) (f : flatD a = true) : flatV v = true ∧ ∀ {b : D} {w : V} {bs : List Addr}, Rep X.K me F H b w bs → flatD b = true → eqV v w = eqF a b := by
  cases a <;> simp only [flatD] at f <;> try cases f
  · rw [rep_non h]; refine ⟨rfl, fun {b w bs} h' f' => ?_⟩
    cases b <;> simp only [flatD] at f' <;> try cases f'
    · rw [rep_non h']; rfl
    · rw [rep_bl h']; rfl
    · rw [rep_int h']; rfl
    · rw [rep_str h']; rfl
  · rw [rep_bl h]; refine ⟨rfl, fun {b w bs} h' f' => ?_⟩
    cases b <;> simp only [flatD] at f' <;> try cases f'
    · rw [rep_non h']; rfl
    · rw [rep_bl h']; rfl
    · rw [rep_int h']; rfl
    · rw [rep_str h']; rfl
  · rw [rep_int h]; refine ⟨rfl, fun {b w bs} h' f' => ?_⟩
    cases b <;> simp only [flatD] at f' <;> try cases f'
    · rw [rep_non h']; rfl
    · rw [rep_bl h']; rfl
    · rw [rep_int h']; rfl
    · rw [rep_str h']; rfl
  · rw [rep_str h]; refine ⟨rfl, fun {b w bs} h' f' => ?_⟩
    cases b <;> simp only [flatD] at f' <;> try cases f'
    · rw [rep_non h']; rfl
    · rw [rep_bl h']; rfl
    · rw [rep_int h']; rfl
    · rw [rep_str h']; rfl
theorem flats_ok : ∀ {ds : List D} {vs : List V} {as : List Addr}, ReL X.K me F H ds vs as → ds.all flatD = true → vs.all flatV = true ∧ ∀ {b : D} {w : V} {bs : List Addr}, Rep X.K me F H b w bs → flatD b = true → inV w vs = ds.any fun y => eqF y b
  | [], vs, as, h, f => by
    simp only [ReL] at h
    rw [h.1]
    exact ⟨rfl, fun _ _ => rfl⟩
  | d :: ds, vs, as, h, f => by
    simp only [ReL] at h
    obtain ⟨v, r, a1, a2, ev, ee, h1, h2⟩ := h
    simp only [List.all_cons, Bool.and_eq_true] at f
    obtain ⟨k1, k2⟩ := flat_ok h1 f.1
    obtain ⟨k3, k4⟩ := flats_ok h2 f.2
    rw [ev]
    refine ⟨by simp [k1, k3], fun {b w bs} h' f' => ?_⟩
    have e1 := k4 h' f'
    unfold inV at e1 ⊢
    rw [List.any_cons, List.any_cons, k2 h' f', e1]
/-- x in y -/
theorem inD_ok {c neg : Bool} (hr : Room k X.A) (I : Inv X pins σ H s) (r1 : RelV x u) (r2 : RelV y w) (sub : Le F H) (ha : Rep X.K me F H a x as) (hb : Rep X.K me F H b y bs) (e : inD a b = some c) (g : Q (.bl (if neg then !c else c)) H) :
    wpAny (model X.prog X.w) X.A (compareOp (if neg then .NotIn else .In) u w) (EP X pins σ Q) X.xe s := by
  unfold inD at e
  split at e
  · rename_i m ds
    split at e
    · rename_i p qs h1 h2
      split at e
      · rename_i hsh
        cases e
        rw [Bool.and_eq_true] at hsh
        have d1 := Rep.dp sub ha h1
        have d2 := Rep.dp (p := .list qs) sub hb (by simp [toPy, h2])
        have hu : X.A.units + 65 < cLine := by have := hr.un; omega
        cases neg with
        | false => exact op_inD hu pins s σ H x y u w Q I r1 r2 ⟨p, qs, d1, d2, hsh.1, hsh.2, g⟩
        | true => exact op_notInD hu pins s σ H x y u w Q I r1 r2 ⟨p, qs, d1, d2, hsh.1, hsh.2, g⟩
      · cases e
    · cases e
  · rename_i ds
    split at e
    · rename_i hf
      cases e
      rw [Bool.and_eq_true] at hf
      obtain ⟨p, vs, ev, hs, hq⟩ := rep_tup hb
      obtain ⟨k1, _⟩ := flat_ok ha hf.1
      obtain ⟨k3, k4⟩ := flats_ok (H := H) (ReL.mono (Le.refl F) _ _ _ (fun _ z => absurd z (by simp)) hq) hf.2
      have k5 := k4 ha hf.1
      cases neg with
      | false => exact op_in_seq pins s σ H x y u w Q I r1 r2 ⟨p, vs, ev, .inr (sub.seqT hs), k1, k3, by rw [k5]; exact g⟩
      | true => exact op_notIn_seq pins s σ H x y u w Q I r1 r2 ⟨p, vs, ev, .inr (sub.seqT hs), k1, k3, by rw [k5]; exact g⟩
    · cases e
  · rename_i z1 z
    split at e
    case h_2 => cases e
    rename_i c1 hc1
    cases e
    have ez : z1 = ⟨#[c1]⟩ := by
      obtain ⟨⟨l⟩⟩ := z1
      have hc1 : l = [c1] := hc1
      rw [hc1]
    subst ez
    cases neg with
    | false => exact op_in_sign pins s σ H x y u w Q I r1 r2 ⟨_, _, rep_str ha, rep_str hb, g⟩
    | true => exact op_notIn_sign pins s σ H x y u w Q I r1 r2 ⟨_, _, rep_str ha, rep_str hb, g⟩
  · cases e
/-- a comparison: True or False, nothing is made -/
theorem cmpop_ok {op : CmpOp} {c : Bool} (hr : Room k X.A) (I : Inv X pins σ H s) (r1 : RelV x u) (r2 : RelV y w) (sub : Le F H) (ha : Rep X.K me F H a x as) (hb : Rep X.K me F H b y bs) (e : cmpop op a b = some c) (g : Q (.bl c) H) :
    wpAny (model X.prog X.w) X.A (compareOp op u w) (EP X pins σ Q) X.xe s := by
  unfold cmpop at e
  split at e
  · cases e; exact op_lt pins s σ H x y u w Q I r1 r2 ⟨_, _, rep_int ha, rep_int hb, g⟩
  · cases e; exact op_le pins s σ H x y u w Q I r1 r2 ⟨_, _, rep_int ha, rep_int hb, g⟩
  · cases e; exact op_gt pins s σ H x y u w Q I r1 r2 ⟨_, _, rep_int ha, rep_int hb, g⟩
  · cases e; exact op_ge pins s σ H x y u w Q I r1 r2 ⟨_, _, rep_int ha, rep_int hb, g⟩
  · cases e
    refine op_isN pins s σ H x y u w Q I r1 r2 ⟨rep_non hb, ?_⟩
    rw [non_dec ha]; exact g
  · refine op_notN pins s σ H x y u w Q I r1 r2 ⟨rep_non hb, ?_⟩
    rw [non_dec ha]
    cases e
    exact g
  · obtain ⟨d1, d2, h1, h2, h3, h4, h5⟩ := eqD_ok e sub ha hb
    exact op_eqD hr.units pins s σ H x y u w Q I r1 r2 ⟨d1, d2, h1, h2, h3, h4, by rw [h5]; exact g⟩
  · cases q : eqD a b with
    | some p =>
      rw [q] at e
      cases e
      obtain ⟨d1, d2, h1, h2, h3, h4, h5⟩ := eqD_ok q sub ha hb
      exact op_neD hr.units pins s σ H x y u w Q I r1 r2 ⟨d1, d2, h1, h2, h3, h4, by rw [h5]; exact g⟩
    | none => rw [q] at e; cases e
  · exact inD_ok (neg := false) hr I r1 r2 sub ha hb e g
  · cases q : inD a b with
    | some p =>
      rw [q] at e
      cases e
      exact inD_ok (neg := true) hr I r1 r2 sub ha hb q g
    | none => rw [q] at e; cases e
  · cases e
/-- truth -/
theorem truth_ok {c : Bool} {Q : Bool → Hp → Prop} (I : Inv X pins σ H s) (r1 : RelV x u) (sub : Le F H) (ha : Rep X.K me F H a x as) (e : truth a = some c) (g : Q c H) :
    wpAny (model X.prog X.w) X.A (truthy u) (TP X pins σ Q) X.xe s := by
  refine tru_ok pins s σ H x u Q I r1 ⟨c, ?_, g⟩
  cases a with
  | non => cases e; rw [rep_non ha]; exact rfl
  | bl _ => cases e; rw [rep_bl ha]; exact rfl
  | int _ => cases e; rw [rep_int ha]; exact rfl
  | tup ds =>
    cases e
    obtain ⟨p, vs, ev, hs, hr⟩ := rep_tup ha
    rw [ev]
    refine .inr (.inl ⟨vs, sub.seqT hs, ?_⟩)
    have := hr.length
    cases ds <;> cases vs <;> simp_all
  | lst m ds =>
    cases e
    obtain ⟨p, vs, bs, ev, hs, hr, _⟩ := rep_lst sub ha
    rw [ev]
    refine .inl ⟨vs, hs, ?_⟩
    have := hr.length
    cases ds <;> cases vs <;> simp_all
  | _ => cases e
end
end Ev

set_option Elab.async false
set_option linter.all false
set_option maxRecDepth 100000
set_option maxHeartbeats 1000000
/-! Ev7: built-in functions. -/
namespace Ev
variable [TabsC]
open PySem L2

def bval : Bl → Value
  | .len => .builtin "len" | .abs => .builtin "abs" | .max => .builtin "max" | .min => .builtin "min" | .int => .type "int" | .isinstance => .builtin "isinstance"
  | .list => .type "list" | .tuple => .type "tuple" | .any => .builtin "any" | .all => .builtin "all" | .repr => .builtin "repr" | .sum => .builtin "sum" | .gcd => .builtin "math.gcd"
theorem boot_ok0 {x : Str} {b : Bl} (h : bltOf0 x = some b) : bootBuiltins x = some (bval b) := by
  unfold bltOf0 at h
  repeat' split at h
  all_goals first | cases h | skip
  all_goals (rename_i q; have e := eq_of_beq q; subst e; decide +kernel)
theorem boot_ok {x : Str} {b : Bl} (h : bltOf x = some b) : bootBuiltins x = some (bval b) := by
  unfold bltOf at h
  by_cases q : (x == "sum") = true
  · rw [if_pos q] at h
    cases h
    rw [eq_of_beq q]; decide +kernel
  · rw [if_neg q] at h
    exact boot_ok0 h
theorem boot_ty {x : Str} {t : String} (h : tyName x = some t) : bootBuiltins x = some (.type t) := by
  unfold tyName at h
  repeat' split at h
  all_goals first | cases h | skip
  all_goals (rename_i q; have e := eq_of_beq q; subst e; decide +kernel)

section
variable (K : PySem.W.Frag) (mg : Me) (F H : Hp)
def RelD : List D → List V → Prop
  | [], vs => vs = []
  | d :: ds, vs => ∃ v r as, vs = v :: r ∧ Rep K mg F H d v as ∧ RelD ds r
end

section
variable {X : Cx} {me : Me} {pins : List (Addr × Obj)} {σ : St} {s : Shared} {F H : Hp} {d : D} {Q : VK} {k : Nat}
theorem tyx_ok {a : D} {x : V} {as : List Addr} {t : String} (sub : Le F H) (h : Rep X.K me F H a x as) (e : tyOf a = some t) : TyX X.K H x (.type t) := by
  cases a with
  | non => cases e; rw [rep_non h]; exact .base .non
  | bl b => cases e; rw [rep_bl h]; exact .base (.bl b)
  | int b => cases e; rw [rep_int h]; exact .base (.int b)
  | str b => cases e; rw [rep_str h]; exact .base (.str b)
  | tup ds =>
    cases e
    obtain ⟨p, vs, ev, hs, _⟩ := rep_tup h
    rw [ev]
    rcases sub.seqT hs with (q | ⟨o, q⟩) | ⟨o, its, n, q, c, _⟩
    · exact .base (.tup q)
    · exact .fTuple q
    · exact .kTuple q c
  | lst m ds =>
    cases e
    obtain ⟨p, vs, bs, ev, hs, _, _⟩ := rep_lst sub h
    rw [ev]
    rcases hs with (q | ⟨o, q⟩) | ⟨o, its, n, q, c, _⟩
    · exact .base (.lst q)
    · exact .base (.frz q)
    · exact .kList q c
  | dic m ks ds =>
    cases e
    cases m <;> simp only [Rep] at h
    · obtain ⟨p, kvs, _, ev, _, q, _⟩ := h; rw [ev]; exact .base (.dK q)
    · obtain ⟨_, p, kvs, ev, q, _⟩ := h; rw [ev]; exact .base (.dK (sub _ _ q))
    · obtain ⟨_, p, kvs, ev, q, _⟩ := h; rw [ev]; exact .base (.dK (sub _ _ q))
  | _ => cases e

theorem one_of {a : D} {vs : List V} (h : RelD X.K me F H [a] vs) : ∃ v as, vs = [v] ∧ Rep X.K me F H a v as := by
  simp only [RelD] at h
  obtain ⟨v, r, as, e, h1, h2⟩ := h
  subst h2
  exact ⟨v, as, e, h1⟩
theorem two_of {a b : D} {vs : List V} (h : RelD X.K me F H [a, b] vs) : ∃ v w as bs, vs = [v, w] ∧ Rep X.K me F H a v as ∧ Rep X.K me F H b w bs := by
  simp only [RelD] at h
  obtain ⟨v, r, as, e, h1, v2, r2, as2, e2, h3, h4⟩ := h
  subst h4; subst e2
  exact ⟨v, v2, as, as2, e, h1, h3⟩

mutual
theorem toPy_noDict : ∀ {d : D} {p : PyData}, toPy d = some p → p.hasDict = false
  | .non, p, h => by simp only [toPy, Option.some.injEq] at h; subst h; rfl
  | .bl _, p, h => by simp only [toPy, Option.some.injEq] at h; subst h; rfl
  | .int _, p, h => by simp only [toPy, Option.some.injEq] at h; subst h; rfl
  | .str _, p, h => by simp only [toPy, Option.some.injEq] at h; subst h; rfl
  | .tup ds, p, h => by
    simp only [toPy] at h
    split at h
    · rename_i xs hx
      cases h
      simpa only [PyData.hasDict] using toPyL_noDict hx
    · cases h
  | .lst _ ds, p, h => by
    simp only [toPy] at h
    split at h
    · rename_i xs hx
      cases h
      simpa only [PyData.hasDict] using toPyL_noDict hx
    · cases h
  | .dic _ _ _, p, h => by simp [toPy] at h
  | .fn _, p, h => by simp [toPy] at h
  | .cloV _, p, h => by simp [toPy] at h
  | .cloX _ _ _, p, h => by simp [toPy] at h
  | .ty _, p, h => by simp [toPy] at h
theorem toPyL_noDict : ∀ {ds : List D} {ps : List PyData}, toPyL ds = some ps → PyData.hasDictAll ps = false
  | [], ps, h => by simp only [toPyL, Option.some.injEq] at h; subst h; rfl
  | d :: r, ps, h => by
    simp only [toPyL] at h
    split at h
    · rename_i x xs h1 h2
      cases h
      simp only [PyData.hasDictAll, toPy_noDict h1, toPyL_noDict h2, Bool.or_false]
    · cases h
end
theorem repr_ok {d : D} {p : PyData} {v : V} {as : List Addr} {vs : List V} {us : List Value} (hr : Room k X.A) (hg : X.A.guards = some []) (I : Inv X pins σ H s) (r : Vals vs us) (sub : Le F H) (h : Rep X.K me F H d v as) (ev : vs = [v]) (hp : toPy d = some p)
    (hs : p.showable = true) (hd : p.depth ≤ 64) (hz : p.shown.length ≤ sizeLine) (g : Gv X.K me H F (.str p.shown) Q) : wpAny (model X.prog X.w) X.A (call (.builtin "repr") us) (EP X pins σ Q) X.xe s := by
  subst ev
  obtain ⟨u, rfl, ru⟩ := Vals.one r
  have dp := Rep.dp sub h hp
  obtain ⟨bs, rd⟩ := Dp.reads I p v u dp ru
  have hun : X.A.units + (p.depth + 1) < cLine := by have := hr.un; omega
  have fin : ∀ (t : Tok) (s' : Shared), Inv X pins σ H s' → EP X pins σ Q (.str p.shown t) s' := fun t s' I' => ⟨.str p.shown, H, I', ⟨t, rfl⟩, g.str sub⟩
  have viaRef : ∀ {a : Addr} {bs : List Addr}, u = .ref a → Reads s.heap (.ref a) p bs → wpAny (model X.prog X.w) X.A (call (.builtin "repr") [u]) (EP X pins σ Q) X.xe s := fun {a bs} e rd => by
    subst e
    exact repr_of_reads' rd hs (fun z => by rw [toPy_noDict hp] at z; cases z) hg hun (fun _ _ e => e) (fun h' t tk hk => fin t _ (I.kept hk)) hz
  cases rd with
  | none => exact P.repr_of_none (fin _ _ (I.tok _))
  | bool b => exact P.repr_of_bool (fin _ _ (I.tok _))
  | int i t => exact P.repr_of_int (by simpa [PyData.showable] using hs) (fin _ _ (I.tok _))
  | str x t => exact P.repr_of_str (fin _ _ (I.tok _)) hz
  | list h1 h2 h3 h4 => exact viaRef rfl (.list h1 h2 h3 h4)
  | tuple h1 h2 h3 h4 => exact viaRef rfl (.tuple h1 h2 h3 h4)
  | dict h1 h2 h3 h4 h5 => exact viaRef rfl (.dict h1 h2 h3 h4 h5)
theorem rel_ints : ∀ {ds : List D} {ns : List Int} {vs : List V} {as : List Addr}, intsD ds = some ns → ReL X.K me F H ds vs as → vs = ns.map V.int
  | [], ns, vs, as, e, h => by
    simp only [intsD, Option.some.injEq] at e
    simp only [ReL] at h
    rw [← e, h.1]; rfl
  | d :: ds, ns, vs, as, e, h => by
    cases d <;> simp only [intsD] at e <;> try cases e
    rename_i b
    simp only [ReL] at h
    obtain ⟨v, r, a1, a2, ev, ee, h1, h2⟩ := h
    split at e
    · rename_i cs q
      cases e
      rw [ev, rep_int h1, rel_ints q h2]; rfl
    · cases e
theorem callB_ok {b : Bl} {ds : List D} {vs : List V} {us : List Value} (hr : Room k X.A) (hg : X.A.guards = some []) (hc : X.calm = true) (I : Inv X pins σ H s) (r : Vals vs us) (sub : Le F H) (h : RelD X.K me F H ds vs)
    (e : callB b ds = some d) (g : Gv X.K me H F d Q) : wpAny (model X.prog X.w) X.A (call (bval b) us) (EP X pins σ Q) X.xe s := by
  unfold callB at e
  split at e
  · cases e
    obtain ⟨v, as, ev, h1⟩ := one_of h
    obtain ⟨p, ws, ew, hs, hq⟩ := rep_tup h1
    refine call_len_seq pins s σ H vs us Q I r ⟨p, ws, by rw [ev, ew], .inr (sub.seqT hs), ?_⟩
    rw [← hq.length]; exact g.int sub
  · cases e
    obtain ⟨v, as, ev, h1⟩ := one_of h
    obtain ⟨p, ws, bs, ew, hs, hq, _⟩ := rep_lst sub h1
    refine call_len_seq pins s σ H vs us Q I r ⟨p, ws, by rw [ev, ew], .inl hs, ?_⟩
    rw [← hq.length]; exact g.int sub
  · split at e
    · rename_i c
      cases e
      obtain ⟨v, as, ev, h1⟩ := one_of h
      exact call_len_str pins s σ H vs us Q I r ⟨_, by rw [ev, rep_str h1], of_decide_eq_true c, g.int sub⟩
    · cases e
  · split at e
    · rename_i ns q
      cases e
      obtain ⟨v, as, ev, h1⟩ := one_of h
      obtain ⟨p, ws, _, ew, hs, hq, _⟩ := rep_lst sub h1
      exact cr_sum hc pins s σ H vs us Q I r ⟨p, ns, by rw [ev, ew], by rw [← rel_ints q hq]; exact hs, g.int sub⟩
    · cases e
  · cases e
    obtain ⟨v, w, as, bs, ev, h1, h2⟩ := two_of h
    exact cr_gcd pins s σ H vs us Q I r ⟨_, _, by rw [ev, rep_int h1, rep_int h2], g.int sub⟩
  · cases e
    obtain ⟨v, as, ev, h1⟩ := one_of h
    exact call_abs pins s σ H vs us Q I r ⟨_, by rw [ev, rep_int h1], g.int sub⟩
  · cases e
    obtain ⟨v, w, as, bs, ev, h1, h2⟩ := two_of h
    exact call_max2 hc pins s σ H vs us Q I r ⟨_, _, by rw [ev, rep_int h1, rep_int h2], g.int sub⟩
  · cases e
    obtain ⟨v, w, as, bs, ev, h1, h2⟩ := two_of h
    exact call_min2 hc pins s σ H vs us Q I r ⟨_, _, by rw [ev, rep_int h1, rep_int h2], g.int sub⟩
  · cases e
    obtain ⟨v, as, ev, h1⟩ := one_of h
    exact call_int1 pins s σ H vs us Q I r (.inl ⟨_, by rw [ev, rep_int h1], g.int sub⟩)
  · cases e
    obtain ⟨v, as, ev, h1⟩ := one_of h
    exact call_int1 pins s σ H vs us Q I r (.inr ⟨_, by rw [ev, rep_bl h1], g.int sub⟩)
  · rename_i x t
    obtain ⟨v, w, as, bs, ev, h1, h2⟩ := two_of h
    unfold isinst at e
    split at e
    · rename_i a ha
      split at e
      · rename_i c hk
        cases e
        exact call_isi pins s σ H vs us Q I r ⟨v, .ty t, .type a, .type t, c, by rw [ev, rep_ty h2], .ty t, tyx_ok sub h1 ha, kit_ty hk, g.bl sub⟩
      · cases e
    · cases e
  · cases e
    obtain ⟨v, as, ev, h1⟩ := one_of h
    obtain ⟨p, ws, ew, hs, hq⟩ := rep_tup h1
    exact call_list_of pins s σ H vs us Q I r ⟨p, ws, by rw [ev, ew], .inr (sub.seqT hs), fun l hl => g.lstNew sub hq hl⟩
  · split at e
    · rename_i c
      cases e
      obtain ⟨v, as, ev, h1⟩ := one_of h
      obtain ⟨p, ws, bs, ew, hs, hq, _⟩ := rep_lst sub h1
      exact call_list_of pins s σ H vs us Q I r ⟨p, ws, by rw [ev, ew], .inl hs, fun l hl => g.lstNew sub (rel_plain c hq) hl⟩
    · cases e
  · cases e
    obtain ⟨v, as, ev, h1⟩ := one_of h
    obtain ⟨p, ws, ew, hs, hq⟩ := rep_tup h1
    refine call_tuple_of pins s σ H vs us Q I r ⟨p, ws, by rw [ev, ew], .inr ⟨sub.seqT hs, g.same sub ?_⟩⟩
    simp only [Rep]
    exact ⟨trivial, p, ws, rfl, hs, hq⟩
  · split at e
    · rename_i c
      cases e
      obtain ⟨v, as, ev, h1⟩ := one_of h
      obtain ⟨p, ws, bs, ew, hs, hq, _⟩ := rep_lst sub h1
      exact call_tuple_of pins s σ H vs us Q I r ⟨p, ws, by rw [ev, ew], .inl ⟨hs, fun l hl => g.tupNew sub (rel_plain c hq) hl⟩⟩
    · cases e
  · split at e
    · rename_i bs q
      cases e
      obtain ⟨v, as, ev, h1⟩ := one_of h
      obtain ⟨p, ws, _, ew, hs, hq, _⟩ := rep_lst sub h1
      exact cr_any hc pins s σ H vs us Q I r ⟨p, bs, by rw [ev, ew], by rw [← rel_bools q hq]; exact hs, g.bl sub⟩
    · cases e
  · split at e
    · rename_i bs q
      cases e
      obtain ⟨v, as, ev, h1⟩ := one_of h
      obtain ⟨p, ws, _, ew, hs, hq, _⟩ := rep_lst sub h1
      exact cr_all hc pins s σ H vs us Q I r ⟨p, bs, by rw [ev, ew], by rw [← rel_bools q hq]; exact hs, g.bl sub⟩
    · cases e
  · split at e
    · rename_i p q
      split at e
      · rename_i c
        cases e
        simp only [Bool.and_eq_true, decide_eq_true_eq] at c
        obtain ⟨v, as, ev, h1⟩ := one_of h
        exact repr_ok hr hg I r sub h1 ev q c.1.1 c.1.2 (of_decide_eq_true c.2) g
      · cases e
    · cases e
  · cases e
end
end Ev

set_option Elab.async false
set_option linter.all false
set_option maxRecDepth 100000
set_option maxHeartbeats 1000000
/-! Ev8: names, constants, operators as expressions. -/
namespace Ev
variable [TabsC]
open PySem L2

theorem PE.imp {X : Cx} {x : Expr} {t t' : TE} (h : PE X x t) (i : ∀ σ H Q, t' σ H Q → t σ H Q) : PE X x t' := ⟨fun pins s σ H Q I q => h.run pins s σ H Q I (i σ H Q q)⟩
theorem set_self {α : Type} : ∀ {l : List α} {i : Nat} {x : α}, l[i]? = some x → l.set i x = l
  | [], i, x, h => rfl
  | a :: l, 0, x, h => by simp at h; subst h; rfl
  | a :: l, i + 1, x, h => by simp at h; rw [List.set_cons_succ, set_self h]
theorem slotOf_at : ∀ {N : List Str} {x : Str} {i : Nat}, slotOf N x = some i → N[i]? = some x
  | [], x, i, h => by cases h
  | y :: r, x, i, h => by
    unfold slotOf at h
    split at h
    · rename_i q
      cases h
      rw [eq_of_beq q]; rfl
    · cases q : slotOf r x with
      | none => rw [q] at h; cases h
      | some j =>
        rw [q] at h
        cases h
        simpa using slotOf_at q

section
variable {K : PySem.W.Frag} {mg : Me} {F H F' H' : Hp} {σ : St} {e e' : En} {A A' B : List Addr}
theorem take_noerr {v : RV} {c : Str} {fs : List (Str × D)} {e1 : En} (h : take e v = .err c fs e1) : False := by
  cases v with
  | val d => cases h
  | han i p =>
    simp only [take] at h
    cases q : getE e i with
    | none => rw [q] at h; cases h
    | some d =>
      rw [q] at h
      simp only at h
      cases q2 : part d p with
      | none => rw [q2] at h; cases h
      | some x => rw [q2] at h; cases h
/-- what is kept of a value -/
theorem take_ok {v : V} {rv : RV} {as : List Addr} {d : D} (S : Sta K mg F H σ e A) (h : ResV K mg F H σ A v rv as) (hn : ∀ a ∈ as, a ∉ A) (ht : take e rv = .ok (d, e')) :
    ∃ F' A' as', Step (as ++ A) H F (as' ++ A') H F' ∧ Sta K mg F' H σ e' A' ∧ Rep K mg F' H d v as' ∧ as'.Nodup ∧ (∀ a ∈ as', a ∉ A' ∧ F' a = none) ∧ (∀ a ∈ as', a ∈ as) ∧ (∀ a ∈ A', a ∈ A) ∧ Step A H F A' H F' := by
  cases rv with
  | val d0 =>
    simp only [take, R.ok.injEq, Prod.mk.injEq] at ht
    obtain ⟨e1, e2⟩ := ht
    subst e1; subst e2
    exact ⟨F, A, as, Step.refl fun _ z => z, S, h.1, h.2.1, h.2.2, fun _ z => z, fun _ z => z, Step.refl fun _ z => z⟩
  | han i p =>
    simp only [take] at ht
    split at ht
    · rename_i d0 hd
      split at ht
      · rename_i x hx
        simp only [R.ok.injEq, Prod.mk.injEq] at ht
        obtain ⟨e1, e2⟩ := ht
        subst e1; subst e2
        obtain ⟨ea, v0, h1, h2⟩ := h
        obtain ⟨w, pre, a1, post, q1, q2, q3, q4⟩ := EL.at S.el hd
        rw [h1] at q1
        cases q1
        have sub1 : ∀ a ∈ a1, a ∈ A := fun a z => by rw [q2]; simp [z]
        have nd := S.nd
        rw [q2] at nd
        have out : ∀ a ∈ pre ++ post, a ∉ a1 := fun a z q => by
          rw [List.nodup_append, List.nodup_append] at nd
          obtain ⟨⟨_, _, n1⟩, _, n2⟩ := nd
          rcases List.mem_append.mp z with w | w
          · exact n1 a w a q rfl
          · exact n2 a (List.mem_append_right _ q) a w rfl
        have sub2 : ∀ a ∈ pre ++ post, a ∈ A := fun a z => by
          rw [q2]
          rcases List.mem_append.mp z with w | w <;> simp [w]
        obtain ⟨c1, r1, r2⟩ := path_rep q3 hx h2
        have fz := Rep.freeze (frzAt_le (as := a1) S.sub) _ _ _ (fun a z o ho => by rw [frzAt_in (r2 a z)]; exact ho) r1
        have fz0 := Rep.freeze (frzAt_le (as := a1) S.sub) _ _ _ (fun a z o ho => by rw [frzAt_in z]; exact ho) q3
        have el := q4 (frzAt F H a1) H (frz d0) v0 [] (frzAt_le S.sub) (fun _ _ _ z => z) fz0
        rw [set_self h1, List.append_nil] at el
        have nd2 : (pre ++ post).Nodup := by
          have := List.nodup_append.mp nd
          obtain ⟨n1, n2, n3⟩ := this
          obtain ⟨m1, m2, m3⟩ := List.nodup_append.mp n1
          exact List.nodup_append.mpr ⟨m1, n2, fun a z b y => n3 a (List.mem_append_left _ z) b y⟩
        have stp : Step A H F (pre ++ post) H (frzAt F H a1) := Step.freeze S.sub sub1 (Rep.nt _ _ _ q3) sub2
        refine ⟨frzAt F H a1, pre ++ post, [], ?_, ⟨frzAt_sub S.sub, el, nd2, fun a z => ?_, stp.ax _ S.ax⟩, fz, .nil, fun a z => absurd z (by simp), fun a z => absurd z (by simp), sub2, stp⟩
        · exact (stp.more fun x z => List.mem_append_right _ z).less fun x z => by simpa using z
        · rw [frzAt_out (out a z)]; exact S.no a (sub2 a z)
      · cases ht
    · cases ht
theorem OkE.fin {B0 T : List Addr} {H0 F0 : Hp} {Q : VK} {d : D} (st : Step B0 H0 F0 (T ++ A) H F) (S : Sta K mg F H σ e A) (post : OkE K mg σ B0 H0 F0 Q (.val d, e)) : Gv K mg H F d Q := fun v H' F' cs st1 sub r nd no => by
  have st2 := st1.frame (T ++ A)
  rw [List.append_nil] at st2
  refine post v H' F' A cs ((st.trans st2).less fun x z => ?_) (S.past sub st1.le (fun a z o ho => st1.keep a o ho (S.nt z ho) (by simp)) (fun a z => ?_) (st1.ax _ S.ax)) ⟨r, nd, fun a z => ⟨fun q => ?_, no a z⟩⟩
  · rcases List.mem_append.mp z with q | q <;> simp [q]
  · cases q : F' a with
    | none => rfl
    | some o =>
      rcases st1.fr a (by rw [q]; simp) with w | w | w
      · exact absurd (S.no a z) w
      · exact absurd w (by simp)
      · exact absurd w (S.old z)
  · rcases st1.own a z with w | w
    · exact absurd w (by simp)
    · exact S.old q w
/-- the value itself -/
theorem OkE.same {B0 T as : List Addr} {H0 F0 : Hp} {Q : VK} {rv : RV} {v : V} (st : Step B0 H0 F0 (T ++ (as ++ A)) H F) (S : Sta K mg F H σ e A) (r : ResV K mg F H σ A v rv as) (post : OkE K mg σ B0 H0 F0 Q (rv, e)) : Q v H :=
  post v H F A as (st.less fun _ z => List.mem_append_right _ z) S r
end

section
variable {K : PySem.W.Frag} {mg : Me} {F H H0 F0 : Hp} {σ : St} {e : En} {A B0 as : List Addr} {Q : VK} {v : V}
theorem OkE.valN {d : D} (st : Step B0 H0 F0 (as ++ A) H F) (S : Sta K mg F H σ e A) (r : Rep K mg F H d v as) (nd : as.Nodup) (dj : ∀ a ∈ as, a ∉ A ∧ F a = none) (post : OkE K mg σ B0 H0 F0 Q (.val d, e)) : Q v H :=
  post v H F A as st S ⟨r, nd, dj⟩
theorem OkE.val0 {d : D} (st : Step B0 H0 F0 A H F) (S : Sta K mg F H σ e A) (r : Rep K mg F H d v []) (post : OkE K mg σ B0 H0 F0 Q (.val d, e)) : Q v H :=
  post v H F A [] st S ⟨r, .nil, fun a z => absurd z (by simp)⟩
theorem OkE.han0 {i : Nat} {p : List Nat} (st : Step B0 H0 F0 A H F) (S : Sta K mg F H σ e A) (r : HanV H σ i p v) (post : OkE K mg σ B0 H0 F0 Q (.han i p, e)) : Q v H :=
  post v H F A [] st S ⟨rfl, r⟩
end
theorem stid {A : List Addr} {H F : Hp} : Step A H F A H F := Step.refl fun _ z => z
/-- one reckons of a module whose names hold mg -/
structure MeOk (K : PySem.W.Frag) (mg : Str → Option Value) (me : Me) : Prop where
  k : me.K = K
  of : ∀ x a, x ≠ lamN → mg x = some (.ref a) → me.of x = some (.ref a)
/-- what the module holds -/
structure ModOk (M : Gb) (P : Program) (K : PySem.W.Frag) (mg : Str → Option Value) : Prop where
  const : ∀ x d, M.consts.lookup x = some d → ∃ u v, mg x = some u ∧ RelV v u ∧ owned d = false ∧ ∀ me F H, Rep K me F H d v []
  defs : ∀ x, M.defs.contains x = true → x ≠ lamN ∧ ∃ a, mg x = some (.ref a)
  free : ∀ x, M.free.contains x = true → mg x = none
  /-- how an exception without a field is made, and one with a field -/
  exP : ∀ c, M.excs.lookup c = some .plain → c ≠ lamN ∧ ∃ C, mg c = some (.ref C) ∧ ∀ X : Cx, X.K = K → X.mg = mg → Gl X c → ∀ (m : Str) (j : Nat) (p p2 pos : Pos), PMk X (.Call (.Name c p) [.Constant (.str m) j p2] [] pos) (fun _ H Q => Q (.ref C) none H)
  exO : ∀ c f, M.excs.lookup c = some (.own f) → c ≠ lamN ∧ ∃ C, mg c = some (.ref C) ∧ ∀ (X : Cx) (k : Nat), X.prog = P → X.K = K → X.mg = mg → Gl X c → Room k X.A → X.A.guards = some [] → X.calm = true → ∀ (a : Expr) (t : TE) (p pos : Pos), noStar [a] = true → PE X a t →
    PMk X (.Call (.Name c p) [a] [] pos) (fun σ H Q => t σ H fun v H1 => ∀ dd, H1 dd = none → Q (.ref C) (some dd) (upd H1 dd (.xd [(f, v)])))
  exF : ∀ c f, M.excs.lookup c = some (.own f) → ∃ C, mg c = some (.ref C) ∧ XfC K C ∧ PySem.W.findIn K (.ref C) f = some none
  exm : ∀ c x b, M.exm.lookup (c, x) = some b → c ≠ lamN ∧ (x == ("__debug__" : Str)) = false ∧ ∃ C v, mg c = some (.ref C) ∧ (mg x = some v ∨ (mg x = none ∧ bootBuiltins x = some v ∧ x ≠ "__name__")) ∧ PySem.W.exmOne K (.ref C) v = some b
  mods : ∀ x b, M.mods.lookup x = some b → mg x = some (bval b) ∧ (x == ("__debug__" : Str)) = false ∧ b = .gcd
  nm : ∀ x, (∃ d, M.consts.lookup x = some d) ∨ M.defs.contains x = true ∨ M.free.contains x = true → (x == ("__debug__" : Str)) = false ∧ x ≠ "__name__"

/-- a def's promise, told of the very state -/
abbrev SpS := Around → List PySem.Env → Shared → Sp
/-- a def that is called with room, no repr under way -/
structure FnG (P : Program) (w : World) (K : PySem.W.Frag) (mg : Str → Option Value) (base : Heap) (CX : CXT) (k : Nat) (f : Addr) (fd : FuncData) (ps : List Str) (sp : SpS) : Prop where
  len : ∀ A o s vs H Q E, sp A o s vs H Q E → vs.length = ps.length
  run : ∀ (A : Around) (outer : List PySem.Env) (s : Shared) (H : Hp) (args : Args) (us : List Value) (vs : List V) (Q : VK) (E : XK), Room k A → A.guards = some [] → Env0 P w K mg base A outer s H → BindsTo s fd args (ps.zip us) → Vals vs us → sp A outer s vs H Q E →
    codeAny (model P w) A (.call (.ref f) args) (CR CX outer P w H s Q E) s

/-- the call of a lambda that slot i may hold -/
abbrev fCallC (i : Nat) : En → R (RV × En) := fun e => match getE e i with
  | some (.cloV d) => .ok (.val d, e)
  | some (.cloX c ks ds) => .err c (ks.zip ds) e
  | _ => .stuck
/-- where a def is entered from here, the lambda that is handed on may be called in it -/
def ActOk (P : Program) (w : World) (K : PySem.W.Frag) (mg : Str → Option Value) (base : Heap) (me : Me) (A : Around) (outer : List PySem.Env) (s : Shared) (H : Hp) : Prop :=
  ∀ (k : Nat) (N : List Str) (qual : Str) (sc : Scope) (f : Addr) (cdv : Value) (E : XK) (pn : List (Addr × Obj)) (xe : Value → Shared → Prop) (W : WL) (i : Nat) (x : Str) (p1 p2 : Pos),
    W.me = me → Takes ((cxOf (L2.CX P w) P w K mg base N qual sc f cdv A outer s H E).tr pn xe) W.w → Room k (cxOf (L2.CX P w) P w K mg base N qual sc f cdv A outer s H E).A → N[i]? = some x → Vis sc x → (x == ("__debug__" : Str)) = false → (x == ("__classdict__" : Str)) = false →
    PE ((cxOf (L2.CX P w) P w K mg base N qual sc f cdv A outer s H E).tr pn xe) (.Call (.Name x p1) [] [] p2) (tE K W.me W (fCallC i))
/-- the promise of a def by its evaluation -/
def spC (P : Program) (w : World) (K : PySem.W.Frag) (mg : Str → Option Value) (base : Heap) (cl : Cl0) (f : Str) : SpS := fun Ar o s vs H Q E => ∃ me ds F A, MeOk K mg me ∧ (me.clo ≠ none → ds.any isClo = true ∧ ActOk P w K mg base me Ar o s H) ∧ Sta K me F H (vs.map some) (ds.map some) A ∧ (match cl f ds with
  | .ok (d, outs) => ∀ v H' F' A' as, Step A H F (as ++ A') H' F' → Sta K me F' H' (vs.map some) outs A' → Rep K me F' H' d v as → as.Nodup → (∀ a ∈ as, a ∉ A' ∧ F' a = none) → Q v H'
  | .err c fs outs => ∀ cls d H' F' A', XRep me F' c fs cls d → Step A H F A' H' F' → Sta K me F' H' (vs.map some) outs A' → E cls d H'
  | .stuck => False)

structure Good (M : Gb) (cl : Cl) (G : Cn) (k : Nat) (W : WL) (X : Cx) : Prop where
  N : X.N = G.N
  sc : X.env.scope = G.sc
  fn : X.fn = G.fnc
  nd : G.N.Nodup
  nn : ∀ x ∈ G.N, (x == ("__debug__" : Str)) = false ∧ (x == ("__classdict__" : Str)) = false
  mod : ModOk M X.prog X.K X.mg
  me : MeOk X.K X.mg W.me
  offL : ∀ j, LocS G j → W.L j
  calm : X.calm = true
  room : Room k X.A
  guards : X.A.guards = some []
  takes : Takes X W.w
  own : PassesOwn (model X.prog X.w) X.A X.env X.xe
  noclo : G.hc = false → W.me.clo = none
  calls : ∀ f, M.defs.contains f = true → ∃ fa fd ps, X.mg f = some (.ref fa) ∧ PySem.W.keepIn X.K (.ref fa) = true ∧ Binds X.K fd ps [] ∧ FnG X.prog X.w X.K X.mg X.base (L2.CX X.prog X.w) k fa fd ps (spC X.prog X.w X.K X.mg X.base (cl.at G) f)
  lows : G.lam = true → cl.two = true → G.inl = false ∧ G.hc = false ∧ ∃ j, k = j + 2 ∧ ∀ f, M.defs.contains f = true → ∃ fa fd ps, X.mg f = some (.ref fa) ∧ PySem.W.keepIn X.K (.ref fa) = true ∧ Binds X.K fd ps [] ∧ FnG X.prog X.w X.K X.mg X.base (L2.CX X.prog X.w) j fa fd ps (spC X.prog X.w X.K X.mg X.base cl.low f)
  act : G.clo = true → ∀ (pn : List (Addr × Obj)) (xe : Value → Shared → Prop) (W' : WL) (i : Nat) (x : Str) (p1 p2 : Pos), W'.me = W.me → Takes (X.tr pn xe) W'.w → slotOf G.N x = some i → G.vis x = true → PE (X.tr pn xe) (.Call (.Name x p1) [] [] p2) (tE X.K W'.me W' (fCallC i))
  /-- what the making of a lambda asks -/
  mkl : G.lam = true → ∃ c P, LamX.TabB X.base X.mg c P ∧ X.env.code = .ref c ∧ (P, X.env.qual ++ lamN) ∈ TabsC.T ∧ ∀ p ∈ TabsC.T, p.1 = P → p.2 = X.env.qual ++ lamN

section
variable {M : Gb} {cl : Cl} {G : Cn} {k : Nat} {W : WL} {X : Cx}
theorem Good.off (g : Good M cl G k W X) {σ σ' : St} (o : Off (LocS G) σ σ') : Off W.L σ σ' := ⟨o.1, fun j n => o.2 j fun h => n (g.offL j h)⟩
theorem Good.kind (g : Good M cl G k W X) (x : Str) : X.env.kindOf x = G.kind x := by
  show X.env.scope.names.lookup x = G.sc.names.lookup x
  rw [g.sc]
theorem Good.vis (g : Good M cl G k W X) {x : Str} (h : G.vis x = true) : Vis X.env.scope x := by
  unfold Cn.vis at h
  unfold Vis
  rw [g.sc]
  unfold Cn.kind at h
  split at h <;> first | (rename_i q; exact .inl q) | (rename_i q; exact .inr (.inl q)) | (rename_i q; exact .inr (.inr q)) | cases h
theorem Good.loc (g : Good M cl G k W X) {x : Str} (h : G.loc x = true) : L2.Loc X.env.scope x ∧ (X.fn x = true ∨ X.env.scope.names.lookup x = some .local) := by
  unfold Cn.loc at h
  unfold L2.Loc
  rw [g.sc, g.fn]
  unfold Cn.kind at h
  split at h
  · rename_i q; exact ⟨.inl q, .inr q⟩
  · rename_i q; exact ⟨.inr q, .inl h⟩
  · cases h
theorem Good.glob (g : Good M cl G k W X) {x : Str} (h : G.glob x = true) : Gl X x := by
  unfold Cn.glob at h
  show X.env.kindOf x = _
  rw [g.kind]
  split at h
  · rename_i q; exact q
  · cases h
theorem Good.at_ (g : Good M cl G k W X) {x : Str} {i : Nat} (h : slotOf G.N x = some i) : X.N[i]? = some x := by rw [g.N]; exact slotOf_at h
theorem Good.dbg (g : Good M cl G k W X) {x : Str} {i : Nat} (h : slotOf G.N x = some i) : (x == ("__debug__" : Str)) = false ∧ (x == ("__classdict__" : Str)) = false := g.nn x (List.mem_of_getElem? (slotOf_at h))

/-- a constant -/
theorem sE_const {x : Expr} {v : V} {d : D} (h : PE X x (tC v)) (r : ∀ F H, Rep X.K W.me F H d v []) {f : En → R (RV × En)} (hf : ∀ e, f e = .ok (.val d, e)) : PE X x (tE X.K W.me W f) := PE.imp h fun σ H Q ⟨e, F, A, S, post⟩ => by
  rw [hf] at post
  exact OkE.val0 stid S (r F H) post
/-- a name -/
theorem sE_name (g : Good M cl G k W X) (x : Str) (pos : Pos) : PE X (.Name x pos) (tE X.K W.me W (nameE M G x)) := by
  cases hs : slotOf G.N x with
  | some i =>
    by_cases hv : G.vis x = true
    · obtain ⟨h1, h2⟩ := g.dbg hs
      refine PE.imp (pe_var (g.at_ hs) (g.vis hv) h1 h2) fun σ H Q ⟨e, F, A, S, post⟩ => ?_
      unfold nameE at post
      rw [hs] at post
      simp only [hv, if_true] at post
      cases hd : getE e i with
      | none => rw [hd] at post; exact post.elim
      | some d =>
        rw [hd] at post
        have post : OkE X.K W.me σ A H F Q (if owned d = true then .han i [] else .val d, e) := post
        obtain ⟨v, pre, a1, po, q1, q2, q3, _⟩ := EL.at S.el hd
        refine ⟨v, q1, ?_⟩
        by_cases ho : owned d = true
        · rw [if_pos ho] at post
          exact OkE.han0 (i := i) (p := []) stid S ⟨v, q1, rfl⟩ post
        · rw [if_neg ho] at post
          rw [Rep.bare (by simpa using ho) q3] at q3
          exact OkE.val0 stid S (q3) post
    · refine ⟨fun pins s σ H Q I ⟨e, F, A, S, post⟩ => ?_⟩
      unfold nameE at post
      rw [hs] at post
      simp only [hv] at post
      exact post.elim
  | none =>
    by_cases hv : G.glob x = true
    · have gl := g.glob hv
      cases hc : M.consts.lookup x with
      | some d =>
        obtain ⟨u, v, hm, rv, ho, rp⟩ := g.mod.const x d hc
        refine PE.imp (pe_glob gl hm rv (g.mod.nm x (.inl ⟨d, hc⟩)).1) fun σ H Q ⟨e, F, A, S, post⟩ => ?_
        unfold nameE at post
        rw [hs] at post
        simp only [hv, if_true, hc] at post
        exact OkE.val0 stid S (rp W.me F H) post
      | none =>
        by_cases hd : M.defs.contains x = true
        · obtain ⟨hnl, a, hm⟩ := g.mod.defs x hd
          refine PE.imp (pe_glob (v := .ref a) gl hm rfl (g.mod.nm x (.inr (.inl hd))).1) fun σ H Q ⟨e, F, A, S, post⟩ => ?_
          unfold nameE at post
          rw [hs] at post
          simp only [hv, if_true, hc, hd] at post
          exact OkE.val0 stid S (by simp only [Rep]; exact ⟨trivial, a, rfl, g.me.of x a hnl hm⟩) post
        · by_cases hf : M.free.contains x = true
          · cases ht : tyName x with
            | some t =>
              obtain ⟨n1, n2⟩ := g.mod.nm x (.inr (.inr hf))
              refine PE.imp (pe_bltn (v := .ty t) gl (g.mod.free x hf) (boot_ty ht) rfl n2 n1) fun σ H Q ⟨e, F, A, S, post⟩ => ?_
              unfold nameE at post
              rw [hs] at post
              simp only [hv, if_true, hc, hd, hf, ht] at post
              exact OkE.val0 stid S (by simp only [Rep]; exact ⟨trivial, trivial⟩) post
            | none =>
              refine ⟨fun pins s σ H Q I ⟨e, F, A, S, post⟩ => ?_⟩
              unfold nameE at post
              rw [hs] at post
              simp only [hv, if_true, hc, hd, hf, ht] at post
              exact post.elim
          · refine ⟨fun pins s σ H Q I ⟨e, F, A, S, post⟩ => ?_⟩
            unfold nameE at post
            rw [hs] at post
            simp only [hv, if_true, hc, hd, hf] at post
            exact post.elim
    · refine ⟨fun pins s σ H Q I ⟨e, F, A, S, post⟩ => ?_⟩
      unfold nameE at post
      rw [hs] at post
      simp only [hv] at post
      exact post.elim

/-- a road of a step or more is left -/
theorem sole_flat {e e' : En} {v v' : RV} (h : sole e v = .ok (v', e')) : flat v' = true := by
  unfold sole at h
  split at h
  · unfold R.bind at h
    split at h <;> first | (cases h; rfl) | cases h
  · rename_i hne
    simp only [R.ok.injEq, Prod.mk.injEq] at h
    rw [← h.1]
    cases v with
    | val d => rfl
    | han i p =>
      cases p with
      | nil => rfl
      | cons j p => exact absurd rfl (hne i j p)
theorem sE_sole {x : Expr} {f : En → R (RV × En)} (h : PE X x (tE X.K W.me W f)) : PE X x (tE X.K W.me W fun e => (f e).bind fun (v, e1) => sole e1 v) := by
  refine ⟨fun pins s σ H Q I ⟨e, F, A, S, post⟩ => ?_⟩
  refine seqE (T := []) h I S (Step.refl fun _ z => by simpa using z) post fun rv e' hf v u s' H' F' A' as I' r st st0 S' res post => ?_
  simp only [List.nil_append] at st0
  cases rv with
  | val d => exact ⟨v, H', I', r, OkE.same (T := []) (by simpa using st0) S' res post⟩
  | han i p =>
    cases p with
    | nil => exact ⟨v, H', I', r, OkE.same (T := []) (by simpa using st0) S' res post⟩
    | cons j p =>
      simp only [sole] at post
      cases ht : take e' (.han i (j :: p)) with
      | ok y =>
        obtain ⟨d, e2⟩ := y
        rw [ht] at post
        have has : as = [] := res.1
        obtain ⟨F2, A2, as2, t1, S2, rp, nd, dj, _, _, _⟩ := take_ok S' res (fun a z => by rw [has] at z; exact absurd z (by simp)) ht
        exact ⟨v, H', I', r, OkE.valN (st0.trans t1) S2 rp nd dj post⟩
      | err _ _ _ => exact (take_noerr ht).elim
      | stuck => rw [ht] at post; exact post.elim

/-- a op b -/
theorem sE_bin {a b : Expr} {op : Operator} {pos : Pos} {fa fb : En → R (RV × En)} (ha : PE X a (tE X.K W.me W fa)) (hb : PE X b (tE X.K W.me W fb)) (ga : ∀ e v e', fa e = .ok (v, e') → flat v = true) :
    PE X (.BinOp a op b pos) (tE X.K W.me W fun e => (fa e).bind fun (va, e1) => (fb e1).bind fun (vb, e2) => match content e2 va, content e2 vb with
      | some x, some y => (ofO (binop op x y)).bind fun d => .ok (.val d, e2)
      | _, _ => .stuck) := by
  refine ⟨fun pins s σ H Q I ⟨e, F, A, S, post⟩ => wpAny_BinOp ?_⟩
  refine seqE (T := []) ha I S (Step.refl fun _ z => by simpa using z) post fun va e1 h1 v u s1 H1 F1 A1 as1 I1 r1 st1 st01 S1 res1 post => ?_
  refine seqE (T := as1) hb I1 S1 (by simpa using st01) post fun vb e2 h2 y w s2 H2 F2 A2 as2 I2 r2 st2 st02 S2 res2 post => ?_
  obtain ⟨res1', dj⟩ := res1.past (ga _ _ _ h1) st2
  cases ca : content e2 va with
  | none => simp only [ca] at post; exact post.elim
  | some x =>
    cases cb : content e2 vb with
    | none => simp only [ca, cb] at post; exact post.elim
    | some z =>
      simp only [ca, cb] at post
      obtain ⟨a1, p1, _⟩ := ResV.content S2 res1' ca
      obtain ⟨a2, p2, _⟩ := ResV.content S2 res2 cb
      cases hd : binop op x z with
      | some d =>
        rw [hd] at post
        exact binop_ok I2 r1 r2 S2.sub p1 p2 hd (OkE.fin (T := as1 ++ as2) (by simpa [List.append_assoc] using st02) S2 post)
      | none => rw [hd] at post; exact post.elim
end
end Ev

set_option Elab.async false
set_option linter.all false
set_option maxRecDepth 100000
set_option maxHeartbeats 1000000
/-! Ev9: further expressions; tests; arguments. -/
namespace Ev
variable [TabsC]
open PySem L2
open PyProof.Rows (UnaryOp_ not_of BoolOp_and BoolOp_or BoolOp_one isTrue_and isTrue_or isTrue_not isTrue_plain)

section
variable {M : Gb} {cl : Cl} {G : Cn} {k : Nat} {W : WL} {X : Cx}

/-- not a, as a value -/
theorem sE_not {a : Expr} {pos : Pos} {fa : En → R (RV × En)} (ha : PE X a (tE X.K W.me W fa)) :
    PE X (.UnaryOp .Not a pos) (tE X.K W.me W fun e => (fa e).bind fun (v, e1) => match content e1 v with | some d => (ofO (truth d)).bind fun b => .ok (.val (.bl !b), e1) | none => .stuck) := by
  refine ⟨fun pins s σ H Q I ⟨e, F, A, S, post⟩ => UnaryOp_ ?_⟩
  refine seqE (T := []) ha I S (Step.refl fun _ z => by simpa using z) post fun va e1 h1 v u s1 H1 F1 A1 as1 I1 r1 st1 st01 S1 res1 post => ?_
  cases ca : content e1 va with
  | none => simp only [ca] at post; exact post.elim
  | some x =>
    simp only [ca] at post
    obtain ⟨a1, p1, _⟩ := ResV.content S1 res1 ca
    cases ht : truth x with
    | some b =>
      rw [ht] at post
      refine not_of (thn (truth_ok (Q := fun c H' => c = b ∧ H' = H1) I1 r1 S1.sub p1 ht ⟨rfl, rfl⟩) fun c s2 ⟨H2, I2, e1, e2⟩ => ?_)
      subst e1; subst e2
      exact ⟨.bl !c, H2, I2, rfl, (OkE.fin (T := as1) (by simpa using st01) S1 post).bl S1.sub⟩
    | none => rw [ht] at post; exact post.elim
/-- -a -/
theorem sE_neg {a : Expr} {pos : Pos} {fa : En → R (RV × En)} (ha : PE X a (tE X.K W.me W fa)) :
    PE X (.UnaryOp .USub a pos) (tE X.K W.me W fun e => (fa e).bind fun (va, e1) => match content e1 va with
      | some (.int i) => .ok (.val (.int (-i)), e1)
      | _ => .stuck) := by
  refine ⟨fun pins s σ H Q I ⟨e, F, A, S, post⟩ => UnaryOp_ ?_⟩
  refine seqE (T := []) ha I S (Step.refl fun _ z => by simpa using z) post fun va e1 h1 v u s1 H1 F1 A1 as1 I1 r1 st1 st01 S1 res1 post => ?_
  cases ca : content e1 va with
  | none => simp only [ca] at post; exact post.elim
  | some x =>
    obtain ⟨a1, p1, _⟩ := ResV.content S1 res1 ca
    cases x <;> simp only [ca] at post <;> first | exact post.elim | skip
    exact un_neg pins s1 σ H1 v u Q I1 r1 ⟨_, rep_int p1, (OkE.fin (T := as1) (by simpa using st01) S1 post).int S1.sub⟩
/-- a if t else b -/
theorem sE_if {c a b : Expr} {pos : Pos} {fc : En → R (Bool × En)} {fa fb : En → R (RV × En)} (hc : PT X c (tT X.K W.me W fc)) (ha : PE X a (tE X.K W.me W fa)) (hb : PE X b (tE X.K W.me W fb)) :
    PE X (.IfExp c a b pos) (tE X.K W.me W fun e => (fc e).bind fun (c, e1) => if c then fa e1 else fb e1) := by
  refine ⟨fun pins s σ H Q I ⟨e, F, A, S, post⟩ => wpAny_IfExp ?_⟩
  refine seqT (T := []) hc I S (Step.refl fun _ z => by simpa using z) post fun c e1 h1 s1 H1 F1 A1 I1 st1 st01 S1 post => ?_
  have st01 : Step A H F A1 H1 F1 := by simpa using st01
  have tail : ∀ {x : Expr} {f : En → R (RV × En)}, PE X x (tE X.K W.me W f) → PostG X.K W σ A H F (f e1) (OkE X.K W.me σ A H F Q) → wpAny (model X.prog X.w) X.A (eval x X.env) (EP X pins σ Q) X.xe s1 := fun {x f} hx post => by
    refine hx.run pins s1 σ H1 Q I1 ⟨e1, F1, A1, S1, ?_⟩
    cases hf : f e1 with
    | ok y =>
      rw [hf] at post
      exact fun v H' F' A' as st S' res => post v H' F' A' as (st01.trans st) S' res
    | err _ _ _ => rw [hf] at post; exact ErrP.past st01 post
    | stuck => rw [hf] at post; exact post.elim
  cases c with
  | true => rw [if_pos rfl]; exact tail ha post
  | false => rw [if_neg Bool.false_ne_true]; exact tail hb post
/-- the rest of an evaluation from a later state -/
theorem PostG.past {K : PySem.W.Frag} {W : WL} {β : Type} {σ : St} {B B' : List Addr} {H F H' F' : Hp} {r : R β} {φ ψ : β → Prop} (st : Step B H F B' H' F') (h : PostG K W σ B H F r φ) (i : ∀ b, φ b → ψ b) : PostG K W σ B' H' F' r ψ := by
  cases r with
  | ok b => exact i b h
  | err _ _ _ => exact ErrP.past st h
  | stuck => exact h
theorem PostG.off {K : PySem.W.Frag} {W : WL} {β : Type} {σ σ' : St} {B : List Addr} {H F : Hp} {r : R β} {φ : β → Prop} (o : Off W.L σ σ') (h : PostG K W σ B H F r φ) : PostG K W σ' B H F r φ := by
  cases r with
  | ok b => exact h
  | err _ _ _ => exact ErrP.off o h
  | stuck => exact h
theorem OkE.past {K : PySem.W.Frag} {mg : Me} {σ : St} {B B' : List Addr} {H F H' F' : Hp} {Q : VK} {x : RV × En} (st : Step B H F B' H' F') (h : OkE K mg σ B H F Q x) : OkE K mg σ B' H' F' Q x :=
  fun v H2 F2 A2 as st2 S res => h v H2 F2 A2 as (st.trans st2) S res
theorem OkT.past {K : PySem.W.Frag} {mg : Me} {σ : St} {B B' : List Addr} {H F H' F' : Hp} {Q : Bool → Hp → Prop} {x : Bool × En} (st : Step B H F B' H' F') (h : OkT K mg σ B H F Q x) : OkT K mg σ B' H' F' Q x :=
  fun H2 F2 A2 st2 S => h H2 F2 A2 (st.trans st2) S
/-- a and b, a or b: the first part decides, or the rest is asked -/
theorem sE_and {op : BoolOp} {a b : Expr} {r : List Expr} {pos : Pos} {fa fr : En → R (RV × En)} (ha : PE X a (tE X.K W.me W fa)) (hr : PE X (.BoolOp op (b :: r) pos) (tE X.K W.me W fr)) :
    PE X (.BoolOp op (a :: b :: r) pos) (tE X.K W.me W fun e => (fa e).bind fun (v, e1) => match content e1 v with
      | some d => (ofO (truth d)).bind fun c => if stops op c then .ok (v, e1) else fr e1
      | none => .stuck) := by
  refine ⟨fun pins s σ H Q I ⟨e, F, A, S, post⟩ => ?_⟩
  have first : wpAny (model X.prog X.w) X.A (eval a X.env) (fun u s1 => wpAny (model X.prog X.w) X.A (truthy u) (fun c s2 => ∃ v H2 F2 A2 as2 va e2, Inv X pins σ H2 s2 ∧ RelV v u ∧ Step A H F (as2 ++ A2) H2 F2 ∧ Sta X.K W.me F2 H2 σ e2 A2 ∧ ResV X.K W.me F2 H2 σ A2 v va as2 ∧
      PostG X.K W σ A H F (if stops op c then .ok (va, e2) else fr e2) (OkE X.K W.me σ A H F Q)) X.xe s1) X.xe s := by
    refine seqE (T := []) ha I S (Step.refl fun _ z => by simpa using z) post fun va e1 h1 v u s1 H1 F1 A1 as1 I1 r1 st1 st01 S1 res1 post => ?_
    cases ca : content e1 va with
    | none => simp only [ca] at post; exact post.elim
    | some x =>
      simp only [ca] at post
      obtain ⟨a1, p1, _⟩ := ResV.content S1 res1 ca
      cases ht : truth x with
      | some c =>
        rw [ht] at post
        refine thn (truth_ok (Q := fun c' H' => c' = c ∧ H' = H1) I1 r1 S1.sub p1 ht ⟨rfl, rfl⟩) fun c' s2 ⟨H2, I2, e1', e2'⟩ => ?_
        subst e1'; subst e2'
        exact ⟨v, H2, F1, A1, as1, va, e1, I2, r1, by simpa using st01, S1, res1, post⟩
      | none => rw [ht] at post; exact post.elim
  have rest : ∀ {s2 : Shared} {H2 F2 : Hp} {A2 as2 : List Addr} {e2 : En}, Inv X pins σ H2 s2 → Step A H F (as2 ++ A2) H2 F2 → Sta X.K W.me F2 H2 σ e2 A2 → PostG X.K W σ A H F (fr e2) (OkE X.K W.me σ A H F Q) → wpAny (model X.prog X.w) X.A (eval (.BoolOp op (b :: r) pos) X.env) (EP X pins σ Q) X.xe s2 :=
    fun {s2 H2 F2 A2 as2 e2} I2 st S2 post => by
      have st' : Step A H F A2 H2 F2 := st.less fun _ z => List.mem_append_right _ z
      exact hr.run pins s2 σ H2 Q I2 ⟨e2, F2, A2, S2, post.past st' fun b hb => hb.past st'⟩
  cases op with
  | And =>
    refine BoolOp_and (thn first fun u s1 h => thn h fun c s2 ⟨v, H2, F2, A2, as2, va, e2, I2, rv, st, S2, res, post⟩ => ?_)
    cases c with
    | true => rw [if_pos rfl]; exact rest I2 st S2 (by simpa [stops] using post)
    | false => rw [if_neg Bool.false_ne_true]; exact ⟨v, H2, I2, rv, (show OkE X.K W.me σ A H F Q (va, e2) by simpa [stops, PostG] using post) v H2 F2 A2 as2 st S2 res⟩
  | Or =>
    refine BoolOp_or (thn first fun u s1 h => thn h fun c s2 ⟨v, H2, F2, A2, as2, va, e2, I2, rv, st, S2, res, post⟩ => ?_)
    cases c with
    | false => rw [if_neg Bool.false_ne_true]; exact rest I2 st S2 (by simpa [stops] using post)
    | true => rw [if_pos rfl]; exact ⟨v, H2, I2, rv, (show OkE X.K W.me σ A H F Q (va, e2) by simpa [stops, PostG] using post) v H2 F2 A2 as2 st S2 res⟩

/-- two operands and what is made of them -/
theorem two_ops {a b : Expr} {pins : List (Addr × Obj)} {s : Shared} {σ : St} {H F : Hp} {e : En} {A : List Addr} {β : Type} {φ : β → Prop} {g : RV → RV → En → R β} {fa fb : En → R (RV × En)} {P : Value → Value → Shared → Prop}
    (ha : PE X a (tE X.K W.me W fa)) (hb : PE X b (tE X.K W.me W fb)) (ga : ∀ e v e', fa e = .ok (v, e') → flat v = true) (I : Inv X pins σ H s) (S : Sta X.K W.me F H σ e A)
    (post : PostG X.K W σ A H F ((fa e).bind fun (va, e1) => (fb e1).bind fun (vb, e2) => g va vb e2) φ)
    (kk : ∀ va vb e2 v w u1 u2 s2 H2 F2 A2 as1 as2, (∃ e1, fb e1 = .ok (vb, e2)) → flat va = true → Inv X pins σ H2 s2 → RelV v u1 → RelV w u2 → Step A H F (as1 ++ (as2 ++ A2)) H2 F2 → Sta X.K W.me F2 H2 σ e2 A2 → ResV X.K W.me F2 H2 σ A2 v va as1 → ResV X.K W.me F2 H2 σ A2 w vb as2 → (∀ a ∈ as1, a ∉ as2) →
      PostG X.K W σ A H F (g va vb e2) φ → P u1 u2 s2) :
    wpAny (model X.prog X.w) X.A (eval a X.env) (fun u1 s1 => wpAny (model X.prog X.w) X.A (eval b X.env) (fun u2 s2 => P u1 u2 s2) X.xe s1) X.xe s := by
  refine seqE (T := []) ha I S (Step.refl fun _ z => by simpa using z) post fun va e1 h1 v u s1 H1 F1 A1 as1 I1 r1 st1 st01 S1 res1 post => ?_
  refine seqE (T := as1) hb I1 S1 (by simpa using st01) post fun vb e2 h2 y w s2 H2 F2 A2 as2 I2 r2 st2 st02 S2 res2 post => ?_
  obtain ⟨res1', dj⟩ := res1.past (ga _ _ _ h1) st2
  exact kk va vb e2 v y u w s2 H2 F2 A2 as1 as2 ⟨e1, h2⟩ (ga _ _ _ h1) I2 r1 r2 st02 S2 res1' res2 dj post
/-- a < b and its kin: the answer c -/
theorem cmp_run {op : CmpOp} {va vb : RV} {e2 : En} {v w : V} {u1 u2 : Value} {s2 : Shared} {H2 F2 : Hp} {A2 as1 as2 : List Addr} {pins : List (Addr × Obj)} {σ : St} {x y : D} {c : Bool} {Q : VK} (hr : Room k X.A) (I2 : Inv X pins σ H2 s2) (r1 : RelV v u1) (r2 : RelV w u2) (S2 : Sta X.K W.me F2 H2 σ e2 A2)
    (res1 : ResV X.K W.me F2 H2 σ A2 v va as1) (res2 : ResV X.K W.me F2 H2 σ A2 w vb as2) (ca : content e2 va = some x) (cb : content e2 vb = some y) (h : cmpop op x y = some c) (q : Q (.bl c) H2) :
    wpAny (model X.prog X.w) X.A (compareOp op u1 u2) (EP X pins σ Q) X.xe s2 := by
  obtain ⟨a1, p1, _⟩ := ResV.content S2 res1 ca
  obtain ⟨a2, p2, _⟩ := ResV.content S2 res2 cb
  exact cmpop_ok hr I2 r1 r2 S2.sub p1 p2 h q
abbrev fCmp (op : CmpOp) (fa fb : En → R (RV × En)) : En → R (RV × En) := fun e => (fa e).bind fun (va, e1) => (fb e1).bind fun (vb, e2) => match content e2 va, content e2 vb with
  | some x, some y => (ofO (cmpop op x y)).bind fun c => .ok (.val (.bl c), e2)
  | _, _ => .stuck
theorem plain_nomark {op : CmpOp} (b : Expr) (h : plainOp op = true) : behindInMarks op b = false := nomark b (fun e => by subst e; cases h) fun e => by subst e; cases h
theorem okC_nomark {op : CmpOp} {b : Expr} (h : okC op b = true) : behindInMarks op b = false := by
  by_cases h1 : op = .In
  · subst h1
    cases b <;> first | rfl | (simp [okC, okC.okIn] at h)
  · by_cases h2 : op = .NotIn
    · subst h2
      cases b <;> first | rfl | (simp [okC, okC.okIn] at h)
    · exact nomark b h1 h2
theorem sE_cmp {op : CmpOp} {a b : Expr} {pos : Pos} {fa fb : En → R (RV × En)} (g : Good M cl G k W X) (hp : okC op b = true) (ha : PE X a (tE X.K W.me W fa)) (hb : PE X b (tE X.K W.me W fb)) (ga : ∀ e v e', fa e = .ok (v, e') → flat v = true) :
    PE X (.Compare a [op] [b] pos) (tE X.K W.me W (fCmp op fa fb)) := by
  refine ⟨fun pins s σ H Q I ⟨e, F, A, S, post⟩ => wpAny_Compare1 ?_ (okC_nomark hp)⟩
  refine two_ops ha hb ga I S (g := fun va vb e2 => match content e2 va, content e2 vb with
    | some x, some y => (ofO (cmpop op x y)).bind fun c => R.ok (RV.val (.bl c), e2)
    | _, _ => R.stuck) post fun va vb e2 v w u1 u2 s2 H2 F2 A2 as1 as2 _ _ I2 r1 r2 st S2 res1 res2 dj post => ?_
  cases ca : content e2 va with
  | none => simp only [ca] at post; exact post.elim
  | some x =>
    cases cb : content e2 vb with
    | none => simp only [ca, cb] at post; exact post.elim
    | some z =>
      simp only [ca, cb] at post
      cases hd : cmpop op x z with
      | some c =>
        rw [hd] at post
        exact cmp_run g.room I2 r1 r2 S2 res1 res2 ca cb hd ((OkE.fin (T := as1 ++ as2) (by simpa [List.append_assoc] using st) S2 post).bl S2.sub)
      | none => rw [hd] at post; exact post.elim
end
end Ev

set_option Elab.async false
set_option linter.all false
set_option maxRecDepth 100000
set_option maxHeartbeats 1000000
/-! Ev10: readings put together; displays, items, slices, tests, arguments. -/
namespace Ev
variable [TabsC]
open PySem L2

section
variable {K : PySem.W.Frag} {mg : Me} {W : WL} {σ : St} {H F H0 F0 : Hp} {e : En} {A B0 T : List Addr} {β : Type} {φ : β → Prop}
theorem tE_of {f : En → R (RV × En)} {R : VK} (S : Sta K mg F H σ e A) {g : RV × En → Ev.R β} (st0 : Step B0 H0 F0 (T ++ A) H F) (post : PostG K W σ B0 H0 F0 ((f e).bind g) φ)
    (k : ∀ rv e', f e = .ok (rv, e') → ∀ v H' F' A' as, Step A H F (as ++ A') H' F' → Step B0 H0 F0 (T ++ (as ++ A')) H' F' → Sta K mg F' H' σ e' A' → ResV K mg F' H' σ A' v rv as → PostG K W σ B0 H0 F0 (g (rv, e')) φ → R v H') : tE K mg W f σ H R := by
  refine ⟨e, F, A, S, ?_⟩
  cases hf : f e with
  | ok y =>
    rw [hf] at post
    exact fun v H' F' A' as h1 h2 h3 => k y.1 y.2 hf v H' F' A' as h1 (st0.trans (h1.frame T)) h2 h3 post
  | err c fs e' => rw [hf] at post; exact ErrP.before st0 post
  | stuck => rw [hf] at post; exact post
theorem tT_of {f : En → R (Bool × En)} {R : Bool → Hp → Prop} (S : Sta K mg F H σ e A) {g : Bool × En → Ev.R β} (st0 : Step B0 H0 F0 (T ++ A) H F) (post : PostG K W σ B0 H0 F0 ((f e).bind g) φ)
    (k : ∀ b e', f e = .ok (b, e') → ∀ H' F' A', Step A H F A' H' F' → Step B0 H0 F0 (T ++ A') H' F' → Sta K mg F' H' σ e' A' → PostG K W σ B0 H0 F0 (g (b, e')) φ → R b H') : tT K mg W f σ H R := by
  refine ⟨e, F, A, S, ?_⟩
  cases hf : f e with
  | ok y =>
    rw [hf] at post
    exact fun H' F' A' h1 h2 => k y.1 y.2 hf H' F' A' h1 (st0.trans (h1.frame T)) h2 post
  | err c fs e' => rw [hf] at post; exact ErrP.before st0 post
  | stuck => rw [hf] at post; exact post
theorem tA_of {f : En → R (List RV × En)} {R : List V → Hp → Prop} (S : Sta K mg F H σ e A) {g : List RV × En → Ev.R β} (st0 : Step B0 H0 F0 (T ++ A) H F) (post : PostG K W σ B0 H0 F0 ((f e).bind g) φ)
    (k : ∀ rvs e', f e = .ok (rvs, e') → ∀ vs H' F' A' as, Step A H F (as ++ A') H' F' → Step B0 H0 F0 (T ++ (as ++ A')) H' F' → Sta K mg F' H' σ e' A' → ResVs K mg F' H' σ A' vs rvs as → PostG K W σ B0 H0 F0 (g (rvs, e')) φ → R vs H') : tA K mg W f σ H R := by
  refine ⟨e, F, A, S, ?_⟩
  cases hf : f e with
  | ok y =>
    rw [hf] at post
    exact fun vs H' F' A' as h1 h2 h3 => k y.1 y.2 hf vs H' F' A' as h1 (st0.trans (h1.frame T)) h2 h3 post
  | err c fs e' => rw [hf] at post; exact ErrP.before st0 post
  | stuck => rw [hf] at post; exact post
/-- a part of a slice -/
def OkP (K : PySem.W.Frag) (mg : Me) (σ : St) (B : List Addr) (H F : Hp) (Q : Option Int → Hp → Prop) : Option Int × En → Prop := fun x =>
  ∀ H' F' A', Step B H F A' H' F' → Sta K mg F' H' σ x.2 A' → Q x.1 H'
def tO (K : PySem.W.Frag) (mg : Me) (W : WL) (f : En → R (Option Int × En)) : TO := fun σ H Q =>
  ∃ e F A, Sta K mg F H σ e A ∧ PostG K W σ A H F (f e) (OkP K mg σ A H F Q)
theorem tO_of {f : En → R (Option Int × En)} {R : Option Int → Hp → Prop} (S : Sta K mg F H σ e A) {g : Option Int × En → Ev.R β} (st0 : Step B0 H0 F0 (T ++ A) H F) (post : PostG K W σ B0 H0 F0 ((f e).bind g) φ)
    (k : ∀ b e', f e = .ok (b, e') → ∀ H' F' A', Step A H F A' H' F' → Step B0 H0 F0 (T ++ A') H' F' → Sta K mg F' H' σ e' A' → PostG K W σ B0 H0 F0 (g (b, e')) φ → R b H') : tO K mg W f σ H R := by
  refine ⟨e, F, A, S, ?_⟩
  cases hf : f e with
  | ok y =>
    rw [hf] at post
    exact fun H' F' A' h1 h2 => k y.1 y.2 hf H' F' A' h1 (st0.trans (h1.frame T)) h2 post
  | err c fs e' => rw [hf] at post; exact ErrP.before st0 post
  | stuck => rw [hf] at post; exact post
theorem nilA {A : List Addr} {H F : Hp} : Step A H F ([] ++ A) H F := Step.refl fun _ z => by simpa using z
theorem takes_noerr : ∀ {rvs : List RV} {e e1 : En} {c : Str} {fs : List (Str × D)}, takes e rvs = .err c fs e1 → False
  | [], e, e1, c, fs, h => by cases h
  | rv :: rvs, e, e1, c, fs, h => by
    unfold takes at h
    cases q : take e rv with
    | ok y =>
      rw [q] at h
      simp only [R.bind] at h
      cases q2 : takes y.2 rvs with
      | ok z => rw [q2] at h; cases h
      | err _ _ _ => exact takes_noerr q2
      | stuck => rw [q2] at h; cases h
    | err _ _ _ => exact take_noerr q
    | stuck => rw [q] at h; cases h
/-- what is kept of several values -/
theorem takes_ok : ∀ {rvs : List RV} {e e' : En} {F : Hp} {A as : List Addr} {vs : List V} {ds : List D}, Sta K mg F H σ e A → ResVs K mg F H σ A vs rvs as → takes e rvs = .ok (ds, e') →
    ∃ F' A' as', Step (as ++ A) H F (as' ++ A') H F' ∧ Sta K mg F' H σ e' A' ∧ ReL K mg F' H ds vs as' ∧ as'.Nodup ∧ (∀ a ∈ as', a ∉ A' ∧ F' a = none) ∧ (∀ a ∈ as', a ∈ as) ∧ (∀ a ∈ A', a ∈ A) ∧ Step A H F A' H F'
  | [], e, e', F, A, as, vs, ds, S, h, ht => by
    simp only [takes, R.ok.injEq, Prod.mk.injEq] at ht
    obtain ⟨e1, e2⟩ := ht
    subst e1; subst e2
    simp only [ResVs] at h
    obtain ⟨e1, e2⟩ := h
    subst e1; subst e2
    exact ⟨F, A, [], Step.refl fun _ z => z, S, by simp [ReL], .nil, fun a z => absurd z (by simp), fun _ z => z, fun _ z => z, Step.refl fun _ z => z⟩
  | rv :: rvs, e, e', F, A, as, vs, ds, S, h, ht => by
    simp only [ResVs] at h
    obtain ⟨v, r, a1, a2, e1, e2, fl, h1, h2, dj⟩ := h
    subst e1; subst e2
    unfold takes at ht
    cases q : take e rv with
    | err _ _ _ => exact (take_noerr q).elim
    | stuck => rw [q] at ht; cases ht
    | ok y =>
      obtain ⟨d, e1⟩ := y
      rw [q] at ht
      simp only [R.bind] at ht
      have ha1 : ∀ a ∈ a1, a ∉ A := fun a z => by
        cases rv with
        | val d => exact (h1.2.2 a z).1
        | han i p => rw [h1.1] at z; exact absurd z (by simp)
      obtain ⟨F1, A1, b1, s1, S1, r1, n1, d1, i1, j1, t1⟩ := take_ok S h1 ha1 q
      cases q2 : takes e1 rvs with
      | err _ _ _ => exact (takes_noerr q2).elim
      | stuck => rw [q2] at ht; cases ht
      | ok z =>
        obtain ⟨ds2, e2⟩ := z
        rw [q2] at ht
        simp only [R.ok.injEq, Prod.mk.injEq] at ht
        obtain ⟨x1, x2⟩ := ht
        subst x1; subst x2
        obtain ⟨h2', _⟩ := ResVs.past (as' := []) h2 (by simpa using t1)
        obtain ⟨F2, A2, b2, s2, S2, r2, n2, d2, i2, j2, t2⟩ := takes_ok S1 h2' q2
        -- the first datum behind the taking of the others
        obtain ⟨w1, _⟩ := ResV.past (σ := σ) (rv := .val d) (as' := []) (⟨r1, n1, d1⟩ : ResV K mg F1 H σ A1 v (.val d) b1) rfl (by simpa using t2)
        refine ⟨F2, A2, b1 ++ b2, ?_, S2, ?_, ?_, ?_, ?_, fun a z => j1 a (j2 a z), t1.trans t2⟩
        · have u1 := s1.frame a2
          have u2 := s2.frame b1
          have c1 : Step (a1 ++ a2 ++ A) H F (b1 ++ (a2 ++ A1)) H F1 := by
            refine (u1.more fun x z => ?_).less fun x z => ?_
            · simp only [List.mem_append] at z ⊢
              rcases z with z | z | z <;> simp [z]
            · simp only [List.mem_append] at z ⊢
              rcases z with z | z | z <;> simp [z]
          refine (c1.trans u2).less fun x z => ?_
          simpa [List.append_assoc] using z
        · simp only [ReL]
          exact ⟨v, r, b1, b2, rfl, rfl, w1.1, r2⟩
        · exact List.nodup_append.mpr ⟨n1, n2, fun a z b y q => dj a (i1 a z) (by rw [q]; exact i2 b y)⟩
        · intro a z
          rcases List.mem_append.mp z with z | z
          · exact w1.2.2 a z
          · exact d2 a z
        · intro a z
          rcases List.mem_append.mp z with z | z
          · exact List.mem_append_left _ (i1 a z)
          · exact List.mem_append_right _ (i2 a z)
/-- a new list of what is kept -/
theorem fin_lst {Q : VK} {ds : List D} {vs : List V} {as : List Addr} {p : Addr} (S : Sta K mg F H σ e A) (st : Step B0 H0 F0 (as ++ A) H F) (r : ReL K mg F H ds vs as) (nd : as.Nodup) (dj : ∀ a ∈ as, a ∉ A ∧ F a = none)
    (post : OkE K mg σ B0 H0 F0 Q (.val (.lst .own ds), e)) (hp : H p = none) : Q (.ref p) (upd H p (.lst vs)) := by
  have hf := S.fresh hp
  have lv := ReL.live ds vs as r
  have np : ∀ a ∈ as, a ≠ p := fun a z q => by obtain ⟨o, ho⟩ := lv a z; rw [q, hp] at ho; cases ho
  have nA : ∀ a ∈ A, a ≠ p := fun a z q => S.live z (by rw [q]; exact hp)
  have st1 := Step.new (B := as ++ A) (F := F) (o := .lst vs) hp
  refine post (.ref p) _ F A (p :: as) ((st.trans st1).less fun x z => by simpa using z) (S.past (fun a o q => ?_) (Le.refl F) (fun a z o q => ?_) S.no (st1.ax _ S.ax)) ⟨?_, ?_, fun a z => ?_⟩
  · rw [upd_ne (ne_of_none (S.sub a o q) hp)]; exact S.sub a o q
  · rw [upd_ne (nA a z)]; exact q
  · simp only [Rep]
    exact ⟨p, vs, as, rfl, rfl, upd_same, ReL.mono (Le.refl F) ds vs as (fun a z o q => by rw [upd_ne (np a z)]; exact q) r⟩
  · exact List.nodup_cons.mpr ⟨fun z => np p z rfl, nd⟩
  · rcases List.mem_cons.mp z with q | q
    · rw [q]; exact ⟨fun z => nA p z rfl, hf⟩
    · exact dj a q
/-- a new tuple of what is kept: nothing in it is written again -/
theorem fin_tup {Q : VK} {ds : List D} {vs : List V} {as : List Addr} {p : Addr} (S : Sta K mg F H σ e A) (st : Step B0 H0 F0 (as ++ A) H F) (r : ReL K mg F H ds vs as) (nd : as.Nodup) (dj : ∀ a ∈ as, a ∉ A ∧ F a = none)
    (post : OkE K mg σ B0 H0 F0 Q (.val (.tup (frzL ds)), e)) (hp : H p = none) : Q (.ref p) (upd H p (.tup vs)) := by
  have fz : Step (as ++ A) H F A H (frzAt F H as) := Step.freeze S.sub (fun a z => List.mem_append_left _ z) (ReL.nt ds vs as r) fun a z => List.mem_append_right _ z
  have S' : Sta K mg (frzAt F H as) H σ e A := S.past (frzAt_sub S.sub) (frzAt_le S.sub) (fun _ _ _ q => q) (fun a z => by
    rw [frzAt_out fun q => (dj a q).1 z]; exact S.no a z) (fz.ax _ S.ax)
  have r' := ReL.freeze (frzAt_le (as := as) S.sub) ds vs as (fun a z o q => by rw [frzAt_in z]; exact q) r
  exact (OkE.fin (T := []) (by simpa using st.trans fz) S' post).tupNew S'.sub r' hp
end

section
variable {M : Gb} {cl : Cl} {G : Cn} {k : Nat} {W : WL} {X : Cx}
theorem sE_tup {es : List Expr} {j : Nat} {pos : Pos} {f : En → R (List RV × En)} (h : PA X es (tA X.K W.me W f)) :
    PE X (.Tuple es j pos) (tE X.K W.me W fun e => (f e).bind fun (vs, e1) => (takes e1 vs).bind fun (ds, e2) => if lenOk ds.length then .ok (.val (.tup (frzL ds)), e2) else .stuck) := PE.imp (pe_tup h) fun σ H Q ⟨e, F, A, S, post⟩ => by
  refine tA_of (T := []) S nilA post fun rvs e1 h1 vs H1 F1 A1 as1 st1 st01 S1 res1 post => ?_
  cases ht : takes e1 rvs with
  | err _ _ _ => exact (takes_noerr ht).elim
  | stuck => simp only [ht, R.bind] at post; exact post.elim
  | ok y =>
    obtain ⟨ds, e2⟩ := y
    simp only [ht, R.bind] at post
    obtain ⟨F2, A2, as2, s2, S2, r2, n2, d2, _, _, _⟩ := takes_ok S1 res1 ht
    by_cases hl : lenOk ds.length = true
    · rw [if_pos hl] at post
      exact ⟨by rw [← r2.length]; exact of_decide_eq_true hl, fun p hp => fin_tup S2 (by simpa using st01.trans s2) r2 n2 d2 post hp⟩
    · rw [if_neg hl] at post; exact post.elim
theorem sE_lst {es : List Expr} {pos : Pos} {f : En → R (List RV × En)} (h : PA X es (tA X.K W.me W f)) :
    PE X (.List es pos) (tE X.K W.me W fun e => (f e).bind fun (vs, e1) => (takes e1 vs).bind fun (ds, e2) => if lenOk ds.length then .ok (.val (.lst .own ds), e2) else .stuck) := PE.imp (pe_lst h) fun σ H Q ⟨e, F, A, S, post⟩ => by
  refine tA_of (T := []) S nilA post fun rvs e1 h1 vs H1 F1 A1 as1 st1 st01 S1 res1 post => ?_
  cases ht : takes e1 rvs with
  | err _ _ _ => exact (takes_noerr ht).elim
  | stuck => simp only [ht, R.bind] at post; exact post.elim
  | ok y =>
    obtain ⟨ds, e2⟩ := y
    simp only [ht, R.bind] at post
    obtain ⟨F2, A2, as2, s2, S2, r2, n2, d2, _, _, _⟩ := takes_ok S1 res1 ht
    by_cases hl : lenOk ds.length = true
    · rw [if_pos hl] at post
      exact ⟨by rw [← r2.length]; exact of_decide_eq_true hl, fun p hp => fin_lst S2 (by simpa using st01.trans s2) r2 n2 d2 post hp⟩
    · rw [if_neg hl] at post; exact post.elim
/-- arguments -/
theorem sA_nil : PA X [] (tA X.K W.me W fun e => .ok ([], e)) := ⟨fun pos pins s σ H Q I ⟨e, F, A, S, post⟩ => pa_nil.run pos pins s σ H Q I (post [] H F A [] (by simpa using nilA) S ⟨rfl, rfl⟩)⟩
theorem sA_cons {a : Expr} {r : List Expr} {fa : En → R (RV × En)} {fr : En → R (List RV × En)} (hs : starEach (a :: r) X.env = (false, eval a X.env) :: starEach r X.env) (ha : PE X a (tE X.K W.me W fa)) (hr : PA X r (tA X.K W.me W fr)) (ga : ∀ e v e', fa e = .ok (v, e') → flat v = true) :
    PA X (a :: r) (tA X.K W.me W fun e => (fa e).bind fun (v, e1) => (fr e1).bind fun (vs, e2) => .ok (v :: vs, e2)) := ⟨fun pos pins s σ H Q I ⟨e, F, A, S, post⟩ => by
  refine (pa_cons ha hr hs).run pos pins s σ H Q I ?_
  refine tE_of (T := []) S nilA post fun rv e1 h1 v H1 F1 A1 as1 st1 st01 S1 res1 post => ?_
  refine tA_of (T := as1) S1 (by simpa using st01) post fun rvs e2 h2 vs H2 F2 A2 as2 st2 st02 S2 res2 post => ?_
  obtain ⟨res1', dj⟩ := res1.past (ga _ _ _ h1) st2
  refine post (v :: vs) H2 F2 A2 (as1 ++ as2) (by simpa [List.append_assoc] using st02) S2 ?_
  simp only [ResVs]
  exact ⟨v, vs, as1, as2, rfl, rfl, ga _ _ _ h1, res1', res2, dj⟩⟩
end
end Ev

set_option Elab.async false
set_option linter.all false
set_option maxRecDepth 100000
set_option maxHeartbeats 1000000
/-! Ev11: items, slices, chains, tests. -/
namespace Ev
variable [TabsC]
open PySem L2
open PyProof.Rows (isTrue_and isTrue_or isTrue_not isTrue_plain isTrue_and_nil isTrue_or_nil)

section
variable {M : Gb} {cl : Cl} {G : Cn} {k : Nat} {W : WL} {X : Cx}
/-- a plain int: nothing happens -/
def tInt (K : PySem.W.Frag) (mg : Me) (f : En → Option Int) : TE := fun σ H Q => ∃ e F A i, Sta K mg F H σ e A ∧ f e = some i ∧ Q (.int i) H
theorem sI_ok (g : Good M cl G k W X) : ∀ (n : Nat) (x : Expr), PE X x (tInt X.K W.me (intE G n x))
  | 0, x => ⟨fun pins s σ H Q I ⟨e, F, A, i, S, h, q⟩ => by unfold intE at h; cases h⟩
  | n + 1, x => by
    refine ⟨fun pins s σ H Q I ⟨e, F, A, i, S, h, q⟩ => ?_⟩
    unfold intE at h
    split at h
    · cases h
      exact pe_int.run pins s σ H Q I q
    · rename_i y p
      split at h
      · rename_i j hs
        split at h
        · rename_i hv
          split at h
          · rename_i i' hd
            cases h
            obtain ⟨h1, h2⟩ := g.dbg hs
            obtain ⟨v, pre, a1, po, q1, q2, q3, _⟩ := EL.at S.el hd
            exact (pe_var (g.at_ hs) (g.vis hv) h1 h2).run pins s σ H Q I ⟨v, q1, by rw [rep_int q3]; exact q⟩
          · cases h
        · cases h
      · cases h
    · rename_i a b p _x
      split at h
      · rename_i i1 i2 h1 h2
        cases h
        exact (pe_op op_add (sI_ok g n a) (sI_ok g n b)).run pins s σ H Q I ⟨e, F, A, i1, S, h1, e, F, A, i2, S, h2, i1, i2, rfl, rfl, q⟩
      · cases h
    · rename_i a b p _x
      split at h
      · rename_i i1 i2 h1 h2
        cases h
        exact (pe_op op_sub (sI_ok g n a) (sI_ok g n b)).run pins s σ H Q I ⟨e, F, A, i1, S, h1, e, F, A, i2, S, h2, i1, i2, rfl, rfl, q⟩
      · cases h
    · rename_i a p _x
      split at h
      · rename_i i1 h1
        cases h
        exact (pe_un un_neg (sI_ok g n a)).run pins s σ H Q I ⟨e, F, A, i1, S, h1, i1, rfl, q⟩
      · cases h
    · cases h
end

section
variable {K : PySem.W.Frag} {mg : Me} {W : WL} {σ : St} {H F H0 F0 : Hp} {e : En} {A B0 T : List Addr} {Q : VK}
theorem path_more {H : Hp} {a : Addr} {vs : List V} {w : V} {j : Nat} (ha : H a = some (.lst vs)) (hw : vs[j]? = some w) : ∀ {p : List Nat} {v0 : V}, PathV H v0 p (.ref a) → PathV H v0 (p ++ [j]) w
  | [], v0, h => ⟨a, vs, w, h.symm, ha, hw, rfl⟩
  | i :: p, v0, h => by
    obtain ⟨b, us, u, e1, e2, e3, h'⟩ := h
    exact ⟨b, us, u, e1, e2, e3, path_more ha hw h'⟩
theorem item_at {xs : List D} {i : Int} {j : Nat} {ds : List V} (h : item xs i = some j) (hl : xs.length = ds.length) {w : V} (hw : ds[j]? = some w) : atI ds i = some w := by
  unfold item at h
  unfold atI
  rw [← hl]
  split at h
  · rename_i q
    cases h
    rw [q]
    exact hw
  · cases h
/-- the item of what va holds -/
theorem item_fin {va : RV} {v : V} {as : List Addr} {i : Int} {x : V} (S : Sta K mg F H σ e A) (st : Step B0 H0 F0 (T ++ (as ++ A)) H F) (res : ResV K mg F H σ A v va as)
    (post : PostG K W σ B0 H0 F0 (itemE va (content e va) i e) (OkE K mg σ B0 H0 F0 Q)) (hx : x = .int i) : rIx K v x H Q := by
  have st' : Step B0 H0 F0 A H F := st.less fun z hz => List.mem_append_right _ (List.mem_append_right _ hz)
  unfold itemE at post
  split at post
  · rename_i xs hc
    obtain ⟨a1, p1, _⟩ := ResV.content S res hc
    obtain ⟨p, vs, ev, hs, hr⟩ := rep_tup p1
    split at post
    · rename_i j hj
      split at post
      · rename_i d hd
        obtain ⟨w, pre, b1, po, q1, q2, q3, _⟩ := ReL.at hr hd
        have hb : b1 = [] := by
          have := congrArg List.length q2
          simp only [List.length_nil, List.length_append] at this
          exact List.length_eq_zero_iff.mp (by omega)
        subst hb
        exact .inr (.inl ⟨p, vs, i, w, ev, hx, S.sub.seqT hs, item_at hj hr.length q1, OkE.val0 st' S q3 post⟩)
      · exact post.elim
    · exact post.elim
  · rename_i m xs hc
    obtain ⟨a1, p1, _⟩ := ResV.content S res hc
    obtain ⟨p, vs, bs, ev, hs, hr, ho⟩ := rep_lst S.sub p1
    split at post
    · rename_i j hj
      split at post
      · rename_i d hd
        obtain ⟨w, pre, b1, po, q1, q2, q3, _⟩ := ReL.at hr hd
        split at post
        · rename_i hown
          split at post
          · rename_i s0 p0
            obtain ⟨_, v0, h1, h2⟩ := res
            have hm : m ≠ .ext := by
              intro z; subst z
              simp only [Rep] at p1
              obtain ⟨_, _, _, _, _, hr0⟩ := p1
              obtain ⟨_, _, b2, _, _, z2, z3, _⟩ := ReL.at hr0 hd
              have hb : b2 = [] := by
                have := congrArg List.length z2
                simp only [List.length_nil, List.length_append] at this
                exact List.length_eq_zero_iff.mp (by omega)
              subst hb
              cases d with
              | lst m2 _ => cases m2 <;> simp [owned, Rep] at hown z3
              | dic m2 _ _ => cases m2 <;> simp [owned, Rep] at hown z3
              | _ => simp [owned] at hown
            subst ev
            exact .inl ⟨p, vs, i, w, rfl, hx, hs, item_at hj hr.length q1, OkE.han0 (i := s0) (p := p0 ++ [j]) st' S ⟨v0, h1, path_more (ho hm) q1 h2⟩ post⟩
          · exact post.elim
        · rename_i hown
          have hb := Rep.bare (by simpa using hown) q3
          subst hb
          exact .inl ⟨p, vs, i, w, ev, hx, hs, item_at hj hr.length q1, OkE.val0 st' S q3 post⟩
      · exact post.elim
    · exact post.elim
  · exact post.elim
end

section
variable {M : Gb} {cl : Cl} {G : Cn} {k : Nat} {W : WL} {X : Cx}
theorem plainIx_ok {b : Expr} (h : plainIx b = true) : PlainIx b := by
  intro o i
  cases b <;> first | rfl | (simp [plainIx] at h)
/-- a[b] -/
theorem sE_item {a b : Expr} {pos : Pos} {fa fb : En → R (RV × En)} (g : Good M cl G k W X) (hp : plainIx b = true) (ha : PE X a (tE X.K W.me W fa)) (hb : PE X b (tE X.K W.me W fb)) :
    PE X (.Subscript a b pos) (tE X.K W.me W fun e => (fa e).bind fun (va, e1) => match intE G 8 b e1 with
      | some i => itemE va (content e1 va) i e1
      | none => (sole e1 va).bind fun (va, e1) => (fb e1).bind fun (vb, e2) => match content e2 vb with
        | some (.int i) => itemE va (content e2 va) i e2
        | _ => .stuck) := by
  refine ⟨fun pins s σ H Q I ⟨e, F, A, S, post⟩ => ?_⟩
  simp only at post
  cases hfa : fa e with
  | err c fs e' =>
    refine (pe_ix ix_seq ha (sI_ok g 8 b) (plainIx_ok hp)).run pins s σ H Q I ?_
    refine tE_of (T := []) S nilA post fun rv e' h1 v H1 F1 A1 as1 st1 st01 S1 res1 post => ?_
    rw [hfa] at h1; cases h1
  | stuck => rw [hfa] at post; exact post.elim
  | ok y =>
    obtain ⟨va, e1⟩ := y
    cases hi : intE G 8 b e1 with
    | some i =>
      -- the place is plain: the road stays as it is
      refine (pe_ix ix_seq ha (sI_ok g 8 b) (plainIx_ok hp)).run pins s σ H Q I ?_
      refine tE_of (T := []) S nilA post fun rv e' h1 v H1 F1 A1 as1 st1 st01 S1 res1 post => ?_
      rw [hfa] at h1
      cases h1
      simp only [hi] at post
      exact ⟨e1, F1, A1, i, S1, hi, item_fin (T := []) S1 (by simpa using st01) res1 post rfl⟩
    | none =>
      refine (pe_ix ix_seq (sE_sole ha) hb (plainIx_ok hp)).run pins s σ H Q I ?_
      have post2 : PostG X.K W σ A H F (((fa e).bind fun (v, e1) => sole e1 v).bind fun (va, e1) => (fb e1).bind fun (vb, e2) => match content e2 vb with
        | some (.int i) => itemE va (content e2 va) i e2
        | _ => .stuck) (OkE X.K W.me σ A H F Q) := by
        rw [hfa] at post ⊢
        simp only [R.bind, hi] at post ⊢
        exact post
      refine tE_of (f := fun e => (fa e).bind fun (v, e1) => sole e1 v) (T := []) S nilA post2 fun rv e' h1 v H1 F1 A1 as1 st1 st01 S1 res1 post => ?_
      have fl : flat rv = true := by
        simp only at h1
        rw [hfa] at h1
        exact sole_flat h1
      refine tE_of (T := as1) S1 (by simpa using st01) post fun vb e2 h2 w H2 F2 A2 as2 st2 st02 S2 res2 post => ?_
      obtain ⟨res1', dj⟩ := res1.past fl st2
      cases cb : content e2 vb with
      | none => simp only [cb] at post; exact post.elim
      | some z =>
        obtain ⟨a2, p2, _⟩ := ResV.content S2 res2 cb
        cases z <;> simp only [cb] at post <;> first | exact post.elim | skip
        rename_i i
        refine item_fin (T := as2) S2 (st02.less fun x hx => ?_) res1' post (rep_int p2)
        simp only [List.mem_append] at hx ⊢
        rcases hx with hx | hx | hx <;> simp [hx]
end
end Ev

set_option Elab.async false
set_option linter.all false
set_option maxRecDepth 100000
set_option maxHeartbeats 1000000
/-! Ev12: slices, chains, tests. -/
namespace Ev
variable [TabsC]
open PySem L2
open PyProof.Rows (isTrue_and isTrue_or isTrue_not isTrue_plain isTrue_and_nil isTrue_or_nil)

section
variable {K : PySem.W.Frag} {mg : Me} {F H : Hp}
theorem rel_cut {ds : List D} {vs : List V} (lo hi : Option Int) (h : ReL K mg F H ds vs []) : ReL K mg F H (cut ds lo hi) (cutV vs lo hi) [] := by
  unfold cut cutV
  rw [h.length]
  exact rel_take _ (rel_drop _ h)
theorem cut_whole {ds : List D} {lo hi : Option Int} (h : HT.sIx ds.length 0 lo = 0 ∧ HT.sIx ds.length ds.length hi = ds.length) : cut ds lo hi = ds := by
  unfold cut
  rw [h.1, h.2]
  simp
end
section
variable {M : Gb} {cl : Cl} {G : Cn} {k : Nat} {W : WL} {X : Cx}
/-- a[lo:hi] -/
theorem sE_slice {a : Expr} {lo hi : Option Expr} {p2 pos : Pos} {fa : En → R (RV × En)} {fl fh : En → R (Option Int × En)} (ha : PE X a (tE X.K W.me W fa)) (ga : ∀ e v e', fa e = .ok (v, e') → flat v = true) (hl : PO X lo (tO X.K W.me W fl)) (hh : PO X hi (tO X.K W.me W fh)) :
    PE X (.Subscript a (.Slice lo hi none p2) pos) (tE X.K W.me W fun e => (fa e).bind fun (va, e1) => (fl e1).bind fun (l, e2) => (fh e2).bind fun (h, e3) => match content e3 va with
      | some (.tup xs) => .ok (.val (.tup (cut xs l h)), e3)
      | some (.lst m xs) => if plainL xs then .ok (.val (.lst .own (cut xs l h)), e3) else .stuck
      | _ => .stuck) := PE.imp (pe_slice (sl_tupA.or sl_list) ha hl hh) fun σ H Q ⟨e, F, A, S, post⟩ => by
  refine tE_of (T := []) S nilA post fun va e1 h1 v H1 F1 A1 as1 st1 st01 S1 res1 post => ?_
  refine tO_of (T := as1) S1 (by simpa using st01) post fun l e2 h2 H2 F2 A2 st2 st02 S2 post => ?_
  refine tO_of (T := as1) S2 (by simpa using st02) post fun h e3 h3 H3 F3 A3 st3 st03 S3 post => ?_
  obtain ⟨res2, _⟩ := res1.past (as' := []) (ga _ _ _ h1) (by simpa using st2)
  obtain ⟨res3, _⟩ := res2.past (as' := []) (ga _ _ _ h1) (by simpa using st3)
  cases ca : content e3 va with
  | none => simp only [ca] at post; exact post.elim
  | some x =>
    obtain ⟨a1, p1, _⟩ := ResV.content S3 res3 ca
    cases x <;> simp only [ca] at post <;> first | exact post.elim | skip
    · rename_i xs
      obtain ⟨p, vs, ev, hs, hr⟩ := rep_tup p1
      have gv := OkE.fin (T := as1) st03 S3 post
      refine .inl ⟨p, vs, ev, S3.sub.seqT hs, fun z => ?_, fun _ q hq => gv.tupNew S3.sub (rel_cut l h hr) hq⟩
      refine gv.same S3.sub ?_
      rw [cut_whole (by rw [hr.length]; exact z)]
      simp only [Rep]
      exact ⟨trivial, p, vs, rfl, hs, hr⟩
    · rename_i m xs
      by_cases hp : plainL xs = true
      · rw [if_pos hp] at post
        obtain ⟨p, vs, bs, ev, hs, hr, _⟩ := rep_lst S3.sub p1
        exact .inr ⟨p, vs, ev, hs, fun q hq => (OkE.fin (T := as1) st03 S3 post).lstNew S3.sub (rel_cut l h (rel_plain hp hr)) hq⟩
      · rw [if_neg hp] at post; exact post.elim
theorem sP_none : PO X none (tO X.K W.me W fun e => .ok (none, e)) := ⟨fun pins s σ H Q I ⟨e, F, A, S, post⟩ => po_none.run pins s σ H Q I (post H F A stid S)⟩
theorem sP_some {a : Expr} {fa : En → R (RV × En)} (ha : PE X a (tE X.K W.me W fa)) :
    PO X (some a) (tO X.K W.me W fun e => (fa e).bind fun (v, e1) => match content e1 v with | some (.int i) => .ok (some i, e1) | _ => .stuck) := ⟨fun pins s σ H Q I ⟨e, F, A, S, post⟩ => by
  refine (po_some ha).run pins s σ H Q I ?_
  refine tE_of (T := []) S nilA post fun va e1 h1 v H1 F1 A1 as1 st1 st01 S1 res1 post => ?_
  cases ca : content e1 va with
  | none => simp only [ca] at post; exact post.elim
  | some x =>
    obtain ⟨a1, p1, _⟩ := ResV.content S1 res1 ca
    cases x <;> simp only [ca] at post <;> first | exact post.elim | skip
    rename_i i
    have pp : OkP X.K W.me σ A H F Q (some i, e1) := post
    exact ⟨i, rep_int p1, pp H1 F1 A1 ((by simpa using st01 : Step A H F (as1 ++ A1) H1 F1).less fun _ z => List.mem_append_right _ z) S1⟩⟩

/-- a comparison's rule by data -/
def rCmp (K : PySem.W.Frag) (mg : Me) (op : CmpOp) : R2 := fun x y H Q => ∃ F a b as bs c, Le F H ∧ Rep K mg F H a x as ∧ Rep K mg F H b y bs ∧ cmpop op a b = some c ∧ Q (.bl c) H
theorem op_cmpD {op : CmpOp} (hr : Room k X.A) : OpR X (compareOp op) (rCmp X.K W.me op) := by
  intro pins s σ H x y v u Q I rx ry ⟨F, a, b, as, bs, c, sub, ha, hb, h, q⟩
  exact cmpop_ok hr I rx ry sub ha hb h q
abbrev fChain (op op2 : CmpOp) (fa fb fc : En → R (RV × En)) : En → R (RV × En) := fun e => (fa e).bind fun (va, e1) => (fb e1).bind fun (vb, e2) => (match content e2 va, content e2 vb with
      | some x, some y => (ofO (cmpop op x y)).bind fun k => if k then (fc e2).bind fun (vc, e3) => (match content e3 vb, content e3 vc with
        | some y', some z => (ofO (cmpop op2 y' z)).bind fun k2 => .ok (.val (.bl k2), e3)
        | _, _ => .stuck) else .ok (.val (.bl false), e2)
      | _, _ => .stuck)
/-- a op b op2 c -/
theorem chain_rd {op op2 : CmpOp} {fa fb fc : En → R (RV × En)} {K : PySem.W.Frag} {mg : Me} {σ : St} {H : Hp} {Q : VK}
    (ga : ∀ e v e', fa e = .ok (v, e') → flat v = true) (gb : ∀ e v e', fb e = .ok (v, e') → flat v = true) : tE K mg W (fChain op op2 fa fb fc) σ H Q → tChain (rCmp K mg op) (rCmp K mg op2) (tE K mg W fa) (tE K mg W fb) (tE K mg W fc) σ H Q := fun ⟨e, F, A, S, post⟩ => by
  refine tE_of (T := []) S nilA post fun va e1 h1 v H1 F1 A1 as1 st1 st01 S1 res1 post => ?_
  refine tE_of (T := as1) S1 (by simpa using st01) post fun vb e2 h2 w H2 F2 A2 as2 st2 st02 S2 res2 post => ?_
  obtain ⟨res1', dj⟩ := res1.past (ga _ _ _ h1) st2
  cases ca : content e2 va with
  | none => simp only [ca] at post; exact post.elim
  | some x =>
    cases cb : content e2 vb with
    | none => simp only [ca, cb] at post; exact post.elim
    | some y =>
      simp only [ca, cb] at post
      obtain ⟨a1, p1, _⟩ := ResV.content S2 res1' ca
      obtain ⟨a2, p2, _⟩ := ResV.content S2 res2 cb
      cases hd : cmpop op x y with
      | none => rw [hd] at post; exact post.elim
      | some kk =>
        rw [hd] at post
        simp only [ofO, R.bind] at post
        refine ⟨F2, x, y, a1, a2, kk, S2.sub, p1, p2, hd, kk, rfl, ?_⟩
        cases kk with
        | false =>
          rw [if_neg Bool.false_ne_true] at post ⊢
          exact (OkE.fin (T := as1 ++ as2) (by simpa [List.append_assoc] using st02) S2 post).bl S2.sub
        | true =>
          rw [if_pos rfl] at post ⊢
          refine tE_of (T := as1 ++ as2) S2 (by simpa [List.append_assoc] using st02) post fun vc e3 h3 z H3 F3 A3 as3 st3 st03 S3 res3 post => ?_
          obtain ⟨res2', dj2⟩ := res2.past (gb _ _ _ h2) st3
          cases cb' : content e3 vb with
          | none => simp only [cb'] at post; exact post.elim
          | some y' =>
            cases cc : content e3 vc with
            | none => simp only [cb', cc] at post; exact post.elim
            | some zz =>
              simp only [cb', cc] at post
              obtain ⟨b1, r1, _⟩ := ResV.content S3 res2' cb'
              obtain ⟨b2, r2, _⟩ := ResV.content S3 res3 cc
              cases hd2 : cmpop op2 y' zz with
              | none => rw [hd2] at post; exact post.elim
              | some k2 =>
                rw [hd2] at post
                exact ⟨F3, y', zz, b1, b2, k2, S3.sub, r1, r2, hd2, (OkE.fin (T := as1 ++ as2 ++ as3) (by simpa [List.append_assoc] using st03) S3 post).bl S3.sub⟩
theorem chain_mark {op op2 : CmpOp} (b c : Expr) (hp : (plainOp op && plainOp op2) = true) : lastMarks [op, op2] [b, c] = false := by
  rw [Bool.and_eq_true] at hp
  have : lastMarks [op, op2] [b, c] = behindInMarks op2 c := by first | rfl | (unfold lastMarks; rfl)
  rw [this]
  exact plain_nomark c hp.2
theorem sE_chain {op op2 : CmpOp} {a b c : Expr} {pos : Pos} {fa fb fc : En → R (RV × En)} (g : Good M cl G k W X) (hp : (plainOp op && plainOp op2) = true) (ha : PE X a (tE X.K W.me W fa)) (hb : PE X b (tE X.K W.me W fb)) (hc : PE X c (tE X.K W.me W fc))
    (ga : ∀ e v e', fa e = .ok (v, e') → flat v = true) (gb : ∀ e v e', fb e = .ok (v, e') → flat v = true) :
    PE X (.Compare a [op, op2] [b, c] pos) (tE X.K W.me W (fChain op op2 fa fb fc)) :=
  PE.imp (pe_chain (op_cmpD g.room) (op_cmpD g.room) ha hb hc (chain_mark b c hp)) fun σ H Q => chain_rd ga gb
theorem cmp_rd {op : CmpOp} {fa fb : En → R (RV × En)} {K : PySem.W.Frag} {mg : Me} {σ : St} {H : Hp} {Q : VK}
    (ga : ∀ e v e', fa e = .ok (v, e') → flat v = true) : tE K mg W (fCmp op fa fb) σ H Q → tOp (rCmp K mg op) (tE K mg W fa) (tE K mg W fb) σ H Q := fun ⟨e, F, A, S, post⟩ => by
  refine tE_of (T := []) S nilA post fun va e1 h1 v H1 F1 A1 as1 st1 st01 S1 res1 post => ?_
  refine tE_of (T := as1) S1 (by simpa using st01) post fun vb e2 h2 w H2 F2 A2 as2 st2 st02 S2 res2 post => ?_
  obtain ⟨res1', dj⟩ := res1.past (ga _ _ _ h1) st2
  cases ca : content e2 va with
  | none => simp only [ca] at post; exact post.elim
  | some x =>
    cases cb : content e2 vb with
    | none => simp only [ca, cb] at post; exact post.elim
    | some y =>
      simp only [ca, cb] at post
      obtain ⟨a1, p1, _⟩ := ResV.content S2 res1' ca
      obtain ⟨a2, p2, _⟩ := ResV.content S2 res2 cb
      cases hd : cmpop op x y with
      | none => rw [hd] at post; exact post.elim
      | some kk =>
        rw [hd] at post
        exact ⟨F2, x, y, a1, a2, kk, S2.sub, p1, p2, hd, (OkE.fin (T := as1 ++ as2) (by simpa [List.append_assoc] using st02) S2 post).bl S2.sub⟩

/-! ### tests -/
abbrev fTru (f : En → R (RV × En)) : En → R (Bool × En) := fun e => (f e).bind fun (v, e1) => match content e1 v with | some d => (ofO (truth d)).bind fun b => .ok (b, e1) | none => .stuck
/-- the truth of an expression's value, where the test is just that -/
theorem sT_tru {a : Expr} {fa : En → R (RV × En)} (ha : PE X a (tE X.K W.me W fa)) (he : ∀ whole, isTrue a X.env whole = (do let v ← whole; standAt a.pos; holding [v] (truthy v))) : PT X a (tT X.K W.me W (fTru fa)) := by
  refine ⟨fun pins s σ H Q I ⟨e, F, A, S, post⟩ => isTrue_plain ?_ (he _)⟩
  refine seqE (T := []) ha I S nilA post fun va e1 h1 v u s1 H1 F1 A1 as1 I1 r1 st1 st01 S1 res1 post => ?_
  cases ca : content e1 va with
  | none => simp only [ca] at post; exact post.elim
  | some x =>
    simp only [ca] at post
    obtain ⟨a1, p1, _⟩ := ResV.content S1 res1 ca
    cases ht : truth x with
    | none => rw [ht] at post; exact post.elim
    | some b =>
      rw [ht] at post
      have pp : OkT X.K W.me σ A H F Q (b, e1) := post
      exact truth_ok I1 r1 S1.sub p1 ht (pp H1 F1 A1 ((by simpa using st01 : Step A H F (as1 ++ A1) H1 F1).less fun _ z => List.mem_append_right _ z) S1)
theorem tru_rd {f : En → R (RV × En)} {K : PySem.W.Frag} {mg : Me} {σ : St} {H : Hp} {Q : Bool → Hp → Prop} (hf : ∀ e rv e', f e = .ok (rv, e') → ∃ k, rv = .val (.bl k)) :
    tT K mg W (fTru f) σ H Q → tE K mg W f σ H fun x H' => ∃ k, x = .bl k ∧ Q k H' := fun ⟨e, F, A, S, post⟩ => by
  refine ⟨e, F, A, S, ?_⟩
  cases h : f e with
  | stuck => simp only [fTru, h] at post; exact post
  | err c fs e1 => simp only [fTru, h] at post; exact post
  | ok y =>
    obtain ⟨rv, e1⟩ := y
    obtain ⟨kk, er⟩ := hf _ _ _ h
    subst er
    simp only [fTru, h] at post
    have post : OkT K mg σ A H F Q (kk, e1) := post
    intro v H' F' A' as st S' res
    have r1 := res.1
    simp only [Rep] at r1
    obtain ⟨ev, ea⟩ := r1
    subst ev; subst ea
    exact ⟨kk, rfl, post H' F' A' (by simpa using st) S'⟩
theorem fCmp_bl {op : CmpOp} {fa fb : En → R (RV × En)} (e : En) (rv : RV) (e' : En) (h : fCmp op fa fb e = .ok (rv, e')) : ∃ k, rv = .val (.bl k) := by
  unfold fCmp at h
  cases h1 : fa e with
  | stuck => rw [h1] at h; cases h
  | err c fs e1 => rw [h1] at h; cases h
  | ok y =>
    rw [h1] at h
    simp only [R.bind] at h
    cases h2 : fb y.2 with
    | stuck => rw [h2] at h; cases h
    | err c fs e1 => rw [h2] at h; cases h
    | ok z =>
      rw [h2] at h
      simp only at h
      split at h
      · rename_i x w _ _
        cases h3 : cmpop op x w with
        | none => rw [h3] at h; cases h
        | some c => rw [h3] at h; cases h; exact ⟨_, rfl⟩
      · cases h
theorem fChain_bl {op op2 : CmpOp} {fa fb fc : En → R (RV × En)} (e : En) (rv : RV) (e' : En) (h : fChain op op2 fa fb fc e = .ok (rv, e')) : ∃ k, rv = .val (.bl k) := by
  unfold fChain at h
  cases h1 : fa e with
  | stuck => rw [h1] at h; cases h
  | err c fs e1 => rw [h1] at h; cases h
  | ok y =>
    rw [h1] at h
    simp only [R.bind] at h
    cases h2 : fb y.2 with
    | stuck => rw [h2] at h; cases h
    | err c fs e1 => rw [h2] at h; cases h
    | ok z =>
      rw [h2] at h
      simp only at h
      split at h
      · rename_i x w _ _
        cases h3 : cmpop op x w with
        | none => rw [h3] at h; cases h
        | some c =>
          rw [h3] at h
          simp only [ofO] at h
          split at h
          · cases h4 : fc z.2 with
            | stuck => rw [h4] at h; cases h
            | err c fs e1 => rw [h4] at h; cases h
            | ok q =>
              rw [h4] at h
              simp only at h
              split at h
              · rename_i x2 w2 _ _
                cases h5 : cmpop op2 x2 w2 with
                | none => rw [h5] at h; cases h
                | some c => rw [h5] at h; cases h; exact ⟨_, rfl⟩
              · cases h
          · cases h; exact ⟨_, rfl⟩
      · cases h
theorem sT_cmp {op : CmpOp} {a b : Expr} {pos : Pos} {fa fb : En → R (RV × En)} (g : Good M cl G k W X) (hp : okC op b = true) (ha : PE X a (tE X.K W.me W fa)) (hb : PE X b (tE X.K W.me W fb)) (ga : ∀ e v e', fa e = .ok (v, e') → flat v = true) :
    PT X (.Compare a [op] [b] pos) (tT X.K W.me W (fTru (fCmp op fa fb))) :=
  ⟨fun pins s σ H Q I h => (pt_cmpR (op_cmpD g.room) ha hb (okC_nomark hp)).run pins s σ H Q I (cmp_rd ga (tru_rd fCmp_bl h))⟩
theorem sT_chain {op op2 : CmpOp} {a b c : Expr} {pos : Pos} {fa fb fc : En → R (RV × En)} (g : Good M cl G k W X) (hp : (plainOp op && plainOp op2) = true) (ha : PE X a (tE X.K W.me W fa)) (hb : PE X b (tE X.K W.me W fb)) (hc : PE X c (tE X.K W.me W fc))
    (ga : ∀ e v e', fa e = .ok (v, e') → flat v = true) (gb : ∀ e v e', fb e = .ok (v, e') → flat v = true) :
    PT X (.Compare a [op, op2] [b, c] pos) (tT X.K W.me W (fTru (fChain op op2 fa fb fc))) :=
  ⟨fun pins s σ H Q I h => (pt_chain (op_cmpD g.room) (op_cmpD g.room) ha hb hc (chain_mark b c hp)).run pins s σ H Q I (chain_rd ga gb (tru_rd fChain_bl h))⟩
theorem sT_not {a : Expr} {pos : Pos} {fa : En → R (Bool × En)} (ha : PT X a (tT X.K W.me W fa)) : PT X (.UnaryOp .Not a pos) (tT X.K W.me W fun e => (fa e).bind fun (b, e1) => .ok (!b, e1)) := by
  refine ⟨fun pins s σ H Q I ⟨e, F, A, S, post⟩ => isTrue_not ?_⟩
  refine seqT (T := []) ha I S nilA post fun b e1 h1 s1 H1 F1 A1 I1 st1 st01 S1 post => ?_
  have pp : OkT X.K W.me σ A H F Q (!b, e1) := post
  exact ⟨H1, I1, pp H1 F1 A1 (by simpa using st01) S1⟩
theorem tT_past {f : En → R (Bool × En)} {σ : St} {H F H1 F1 : Hp} {A A1 : List Addr} {e1 : En} {Q : Bool → Hp → Prop} (S1 : Sta X.K W.me F1 H1 σ e1 A1) (st : Step A H F A1 H1 F1) (post : PostG X.K W σ A H F (f e1) (OkT X.K W.me σ A H F Q)) : tT X.K W.me W f σ H1 Q :=
  ⟨e1, F1, A1, S1, post.past st fun _ hb => hb.past st⟩
theorem tE_past {f : En → R (RV × En)} {σ : St} {H F H1 F1 : Hp} {A A1 : List Addr} {e1 : En} {Q : VK} (S1 : Sta X.K W.me F1 H1 σ e1 A1) (st : Step A H F A1 H1 F1) (post : PostG X.K W σ A H F (f e1) (OkE X.K W.me σ A H F Q)) : tE X.K W.me W f σ H1 Q :=
  ⟨e1, F1, A1, S1, post.past st fun _ hb => hb.past st⟩
theorem sT_if {c a b : Expr} {pos : Pos} {fc fa fb : En → R (Bool × En)} (hc : PT X c (tT X.K W.me W fc)) (ha : PT X a (tT X.K W.me W fa)) (hb : PT X b (tT X.K W.me W fb)) :
    PT X (.IfExp c a b pos) (tT X.K W.me W fun e => (fc e).bind fun (c, e1) => if c then fa e1 else fb e1) := by
  refine ⟨fun pins s σ H Q I ⟨e, F, A, S, post⟩ => ?_⟩
  have arm : isTrue (.IfExp c a b pos) X.env (eval (.IfExp c a b pos) X.env) = (do if ← isTrue c X.env (eval c X.env) then isTrue a X.env (eval a X.env) else isTrue b X.env (eval b X.env)) := rfl
  rw [arm]
  refine wpAny_bind ?_
  refine seqT (T := []) hc I S nilA post fun c e1 h1 s1 H1 F1 A1 I1 st1 st01 S1 post => ?_
  have st01 : Step A H F A1 H1 F1 := by simpa using st01
  cases c with
  | true => exact ha.run pins s1 σ H1 Q I1 (tT_past S1 st01 post)
  | false => exact hb.run pins s1 σ H1 Q I1 (tT_past S1 st01 post)
theorem sTs_one {op : BoolOp} {a : Expr} {pos : Pos} {fa : En → R (Bool × En)} (ha : PT X a (tT X.K W.me W fa)) : PW X (.BoolOp op [a] pos) (tT X.K W.me W fa) := by
  cases op with
  | And => exact pw_and1 ha
  | Or => exact pw_or1 ha
theorem sTs_cons {op : BoolOp} {a b : Expr} {r : List Expr} {pos : Pos} {fa fr : En → R (Bool × En)} (ha : PT X a (tT X.K W.me W fa)) (hr : PW X (.BoolOp op (b :: r) pos) (tT X.K W.me W fr)) :
    PW X (.BoolOp op (a :: b :: r) pos) (tT X.K W.me W fun e => (fa e).bind fun (c, e1) => if stops op c then .ok (c, e1) else fr e1) := by
  refine ⟨fun wh pins s σ H Q I ⟨e, F, A, S, post⟩ => ?_⟩
  cases op with
  | And =>
    refine isTrue_and (seqT (T := []) ha I S nilA post fun c e1 h1 s1 H1 F1 A1 I1 st1 st01 S1 post => ?_)
    have st01 : Step A H F A1 H1 F1 := by simpa using st01
    cases c with
    | true =>
      simp only [stops, Bool.not_true, Bool.false_eq_true, if_false] at post
      exact hr.run wh pins s1 σ H1 Q I1 (tT_past S1 st01 post)
    | false =>
      simp only [stops, Bool.not_false, if_true] at post
      have pp : OkT X.K W.me σ A H F Q (false, e1) := post
      exact ⟨H1, I1, pp H1 F1 A1 st01 S1⟩
  | Or =>
    refine isTrue_or (seqT (T := []) ha I S nilA post fun c e1 h1 s1 H1 F1 A1 I1 st1 st01 S1 post => ?_)
    have st01 : Step A H F A1 H1 F1 := by simpa using st01
    cases c with
    | false =>
      simp only [stops, Bool.false_eq_true, if_false] at post
      exact hr.run wh pins s1 σ H1 Q I1 (tT_past S1 st01 post)
    | true =>
      simp only [stops, if_true] at post
      have pp : OkT X.K W.me σ A H F Q (true, e1) := post
      exact ⟨H1, I1, pp H1 F1 A1 st01 S1⟩
end
end Ev

set_option Elab.async false
set_option linter.all false
set_option maxRecDepth 100000
set_option maxHeartbeats 1000000
/-! Ev13: targets; what is walked. -/
namespace Ev
variable [TabsC]
open PySem L2

theorem Off.set {P : Nat → Prop} {σ : St} {i : Nat} (x : Option V) (h : P i) : Off P σ (σ.set i x) := ⟨by rw [List.length_set], fun j q => by
  rw [List.getElem?_set_ne]
  rintro rfl
  exact q h⟩
def OkG (K : PySem.W.Frag) (mg : Me) (G : Cn) (σ : St) (B : List Addr) (H F : Hp) (Q : St → Hp → Prop) : En → Prop := fun e' =>
  ∀ σ' H' F' A', Step B H F A' H' F' → Sta K mg F' H' σ' e' A' → Off (LocS G) σ σ' → Q σ' H'
/-- a value goes to a target -/
def tG (K : PySem.W.Frag) (mg : Me) (G : Cn) (W : WL) (f : D → En → R En) : TG := fun v σ H Q => ∃ e F A d as, Sta K mg F H σ e A ∧ Rep K mg F H d v as ∧ as.Nodup ∧ (∀ a ∈ as, a ∉ A ∧ F a = none) ∧ PostG K W σ (as ++ A) H F (f d e) (OkG K mg G σ (as ++ A) H F Q)
def tGs (K : PySem.W.Frag) (mg : Me) (G : Cn) (W : WL) (f : List D → En → R En) : TGs := fun vs σ H Q => ∃ e F A ds as, Sta K mg F H σ e A ∧ ReL K mg F H ds vs as ∧ as.Nodup ∧ (∀ a ∈ as, a ∉ A ∧ F a = none) ∧ PostG K W σ (as ++ A) H F (f ds e) (OkG K mg G σ (as ++ A) H F Q)

section
variable {K : PySem.W.Frag} {mg : Me} {F H : Hp} {σ : St} {e : En} {A as : List Addr}
/-- a datum is put into a slot -/
theorem Sta.put {i : Nat} {d : D} {v : V} (S : Sta K mg F H σ e A) (hi : i < e.length) (r : Rep K mg F H d v as) (nd : as.Nodup) (dj : ∀ a ∈ as, a ∉ A ∧ F a = none) :
    ∃ A', Sta K mg F H (σ.set i (some v)) (e.set i (some d)) A' ∧ (∀ a ∈ A', a ∈ as ++ A) := by
  obtain ⟨pre, a1, post, q1, q2⟩ := EL.put S.el hi
  have nA := S.nd
  rw [q1] at nA
  refine ⟨pre ++ as ++ post, ⟨S.sub, q2 d v as r, ?_, fun a z => ?_, S.ax⟩, fun a z => ?_⟩
  · obtain ⟨n1, n2, n3⟩ := List.nodup_append.mp nA
    obtain ⟨m1, m2, m3⟩ := List.nodup_append.mp n1
    refine List.nodup_append.mpr ⟨List.nodup_append.mpr ⟨m1, nd, fun a z b y q => (dj b y).1 ?_⟩, n2, fun a z b y q => ?_⟩
    · rw [q1, ← q]; simp [z]
    · rcases List.mem_append.mp z with z | z
      · exact n3 a (List.mem_append_left _ z) b y q
      · exact (dj a z).1 (by rw [q1, q]; simp [y])
  · simp only [List.mem_append] at z
    rcases z with (z | z) | z
    · exact S.no a (by rw [q1]; simp [z])
    · exact (dj a z).2
    · exact S.no a (by rw [q1]; simp [z])
  · simp only [List.mem_append] at z ⊢
    rcases z with (z | z) | z
    · exact .inr (by rw [q1]; simp [z])
    · exact .inl z
    · exact .inr (by rw [q1]; simp [z])
end

section
variable {M : Gb} {cl : Cl} {G : Cn} {k : Nat} {W : WL} {X : Cx}
theorem asgN_some {x : Str} {d : D} {e e' : En} (h : asgN G x d e = .ok e') : ∃ i, slotOf G.N x = some i ∧ G.loc x = true ∧ i < e.length ∧ G.bor.contains i = false ∧ e' = e.set i (some d) := by
  unfold asgN at h
  split at h
  · rename_i i hs
    split at h
    · rename_i hl
      unfold setS at h
      split at h
      · cases h
      · rename_i hb
        split at h
        · rename_i hi
          cases h
          exact ⟨i, hs, hl, hi, by simpa using hb, rfl⟩
        · cases h
    · cases h
  · cases h
theorem asgN_noerr {x : Str} {d : D} {e : En} {c : Str} {fs : List (Str × D)} {e1 : En} (h : asgN G x d e = .err c fs e1) : False := by
  unfold asgN at h
  split at h
  · split at h
    · unfold setS at h
      split at h
      · cases h
      · split at h <;> cases h
    · cases h
  · cases h
theorem sG_name (g : Good M cl G k W X) (x : Str) (pos : Pos) : PG X (.Name x pos) (tG X.K W.me G W (asgN G x)) := by
  refine ⟨fun pins s σ H v u Q I r ⟨e, F, A, d, as, S, rp, nd, dj, post⟩ => ?_⟩
  cases hf : asgN G x d e with
  | err _ _ _ => exact (asgN_noerr hf).elim
  | stuck => rw [hf] at post; exact post.elim
  | ok e' =>
    rw [hf] at post
    have post : OkG X.K W.me G σ (as ++ A) H F Q e' := post
    obtain ⟨i, hs, hl, hi, hb, ee⟩ := asgN_some hf
    subst ee
    obtain ⟨l1, l2⟩ := g.loc hl
    obtain ⟨A', S', sub⟩ := S.put hi rp nd dj
    exact (pg_name (by rw [g.N]; exact g.nd) (g.at_ hs) l1 l2).run pins s σ H v u Q I r (post _ H F A' (Step.refl sub) S' (Off.set _ ⟨x, hs, hl, hb⟩))
theorem asgNs_noerr : ∀ {ts : List Expr} {ds : List D} {e : En} {c : Str} {fs : List (Str × D)} {e1 : En}, asgNs G ts ds e = .err c fs e1 → False
  | [], [], e, c, fs, e1, h => by cases h
  | [], _ :: _, e, c, fs, e1, h => by cases h
  | t :: ts, [], e, c, fs, e1, h => by cases t <;> cases h
  | t :: ts, d :: ds, e, c, fs, e1, h => by
    cases t <;> simp only [asgNs] at h <;> try cases h
    rename_i x p
    cases q : asgN G x d e with
    | err _ _ _ => exact asgN_noerr q
    | stuck => rw [q] at h; cases h
    | ok e2 => rw [q] at h; exact asgNs_noerr h
theorem sGs (g : Good M cl G k W X) : ∀ (ts : List Expr), (∀ (ds : List D) (e e' : En), asgNs G ts ds e = .ok e' → (assignEach ts X.env).length = ts.length ∧ (assignEach ts X.env).findIdx? (·.1) = none) ∧ PGs X ts (tGs X.K W.me G W (asgNs G ts))
  | [] => ⟨fun _ _ _ _ => ⟨rfl, rfl⟩, ⟨fun pins s σ H vs us Q I r ⟨e, F, A, ds, as, S, rp, nd, dj, post⟩ => by
      cases ds with
      | cons _ _ => exact post.elim
      | nil =>
        have post : OkG X.K W.me G σ (as ++ A) H F Q e := post
        simp only [ReL] at rp
        exact pgs_nil.run pins s σ H vs us Q I r ⟨rp.1, post σ H F A (Step.refl fun _ z => List.mem_append_right _ z) S (Off.refl _ _)⟩⟩⟩
  | t :: ts => by
    obtain ⟨ih1, ih2⟩ := sGs g ts
    by_cases hn : ∃ x p, t = .Name x p
    · obtain ⟨x, p, et⟩ := hn
      subst et
      refine ⟨fun ds e e' h => ?_, ?_⟩
      · cases ds with
        | nil => cases h
        | cons d ds =>
          simp only [asgNs] at h
          cases q : asgN G x d e with
          | err _ _ _ => rw [q] at h; cases h
          | stuck => rw [q] at h; cases h
          | ok e2 =>
            rw [q] at h
            obtain ⟨j1, j2⟩ := ih1 ds e2 e' h
            have ea : assignEach (Expr.Name x p :: ts) X.env = (false, assign (.Name x p) X.env) :: assignEach ts X.env := rfl
            rw [ea]
            refine ⟨by rw [List.length_cons, List.length_cons, j1], ?_⟩
            rw [List.findIdx?_cons]
            simp [j2]
      · refine ⟨fun pins s σ H vs us Q I r ⟨e, F, A, ds, as, S, rp, nd, dj, post⟩ => ?_⟩
        cases ds with
        | nil => exact post.elim
        | cons d ds =>
          simp only [asgNs] at post
          simp only [ReL] at rp
          obtain ⟨v, vr, a1, a2, ev, ea, h1, h2⟩ := rp
          subst ev; subst ea
          obtain ⟨n1, n2, n3⟩ := List.nodup_append.mp nd
          refine (pgs_cons (sG_name g x p) ih2).run pins s σ H _ us Q I r ⟨v, vr, rfl, e, F, A, d, a1, S, h1, n1, fun a z => dj a (List.mem_append_left _ z), ?_⟩
          cases q : asgN G x d e with
          | err _ _ _ => exact (asgN_noerr q).elim
          | stuck => rw [q] at post; exact post.elim
          | ok e2 =>
            rw [q] at post
            obtain ⟨i, hs, hl, hi, hb, ee⟩ := asgN_some q
            intro σ' H' F' A' st S' off
            have st2 := st.frame a2
            have dead : ∀ a ∈ a2, a ∉ a1 ++ A := fun a z y => by
              rcases List.mem_append.mp y with y | y
              · exact n3 a y a z rfl
              · exact (dj a (List.mem_append_right _ z)).1 y
            have r2 : ReL X.K W.me F' H' ds vr a2 := ReL.mono st.le ds vr a2 (fun a z o ho => st.keep a o ho (ReL.nt ds vr a2 h2 a z o ho) (dead a z)) h2
            have lv := ReL.live ds vr a2 h2
            have out : ∀ a ∈ a2, a ∉ A' ∧ F' a = none := fun a z => by
              obtain ⟨o, ho⟩ := lv a z
              refine ⟨fun y => ?_, ?_⟩
              · rcases st.own a y with w | w
                · exact dead a z w
                · exact w.not ho (ReL.nt ds vr a2 h2 a z o ho)
              · cases q2 : F' a with
                | none => rfl
                | some o' =>
                  rcases st.fr a (by rw [q2]; simp) with w | w | w
                  · exact absurd (dj a (List.mem_append_right _ z)).2 w
                  · exact absurd w (dead a z)
                  · exact w.not ho (ReL.nt ds vr a2 h2 a z o ho)
            have st3 : Step (a1 ++ a2 ++ A) H F (a2 ++ A') H' F' := st2.more fun y z => by
              simp only [List.mem_append] at z ⊢
              rcases z with z | z | z <;> simp [z]
            have post : PostG X.K W σ' (a1 ++ a2 ++ A) H F (asgNs G ts ds e2) (OkG X.K W.me G σ (a1 ++ a2 ++ A) H F Q) := PostG.off (g.off off) post
            exact ⟨e2, F', A', ds, a2, S', r2, n2, out, PostG.past st3 post fun b hb σ2 H2 F2 A2 st4 S2 off2 => hb σ2 H2 F2 A2 (st3.trans st4) S2 (off.trans off2)⟩
    · refine ⟨fun ds e e' h => ?_, ⟨fun pins s σ H vs us Q I r ⟨e, F, A, ds, as, S, rp, nd, dj, post⟩ => ?_⟩⟩
      · cases ds with
        | nil => cases t <;> cases h
        | cons d ds => cases t <;> first | cases h | exact absurd ⟨_, _, rfl⟩ hn
      · cases ds with
        | nil => cases t <;> exact post.elim
        | cons d ds => cases t <;> first | exact post.elim | exact absurd ⟨_, _, rfl⟩ hn
/-- a loop's target: a name, or a tuple of names -/
theorem sG (g : Good M cl G k W X) (tg : Expr) : PG X tg (tG X.K W.me G W (asgT G tg)) := by
  by_cases h1 : ∃ x p, tg = .Name x p
  · obtain ⟨x, p, et⟩ := h1
    subst et
    exact sG_name g x p
  · by_cases h2 : ∃ ts j p, tg = .Tuple ts j p
    · obtain ⟨ts, j, p, et⟩ := h2
      subst et
      refine ⟨fun pins s σ H v u Q I r ⟨e, F, A, d, as, S, rp, nd, dj, post⟩ => ?_⟩
      cases d <;> first | exact post.elim | skip
      rename_i ds
      simp only [asgT] at post
      by_cases hl : (ts.length == ds.length) = true
      · rw [if_pos hl] at post
        obtain ⟨a, xs, ev, hs, hr⟩ := rep_tup rp
        have has : as = [] := Rep.bare rfl rp
        subst has
        cases hf : asgNs G ts ds e with
        | err _ _ _ => exact (asgNs_noerr hf).elim
        | stuck => rw [hf] at post; exact post.elim
        | ok e' =>
          obtain ⟨w1, w2⟩ := (sGs g ts).1 ds e e' hf
          refine (pg_tup g.calm (sGs g ts).2 rfl w2).run pins s σ H v u Q I r ⟨a, xs, ev, S.sub.seqT hs, by rw [w1, ← hr.length]; exact (eq_of_beq hl).symm, e, F, A, ds, [], S, hr, .nil, fun a z => absurd z (by simp), post⟩
      · rw [if_neg hl] at post; exact post.elim
    · refine ⟨fun pins s σ H v u Q I r ⟨e, F, A, d, as, S, rp, nd, dj, post⟩ => ?_⟩
      cases tg <;> first
        | exact absurd ⟨_, _, rfl⟩ h1
        | exact absurd ⟨_, _, _, rfl⟩ h2
        | exact post.elim
end

/-! ### what is walked -/
structure ItOk (K : PySem.W.Frag) (mg : Me) (F : Hp) (J : It) (ds : List D) : Prop where
  go : ∀ i H2 F2, Le F F2 → Le F2 H2 → i < ds.length → J.go i H2
  yld : ∀ i H2 F2 x H3 d, Le F F2 → Le F2 H2 → ds[i]? = some d → J.yld i H2 x H3 → ∃ F3, Step [] H2 F2 [] H3 F3 ∧ Le F3 H3 ∧ Rep K mg F3 H3 d x []
  stop : ∀ H2 F2, Le F F2 → Le F2 H2 → J.stop ds.length H2
def OkI (K : PySem.W.Frag) (mg : Me) (σ : St) (B : List Addr) (H F : Hp) (R : It → Hp → Prop) : List D × En → Prop := fun x =>
  ∀ J H' F' A', Step B H F A' H' F' → Sta K mg F' H' σ x.2 A' → ItOk K mg F' J x.1 → R J H'
def tI (K : PySem.W.Frag) (mg : Me) (W : WL) (f : En → R (List D × En)) : TI := fun σ H R => ∃ e F A, Sta K mg F H σ e A ∧ PostG K W σ A H F (f e) (OkI K mg σ A H F R)
section
variable {K : PySem.W.Frag} {mg : Me} {F H : Hp}
theorem rel_at {ds : List D} {vs : List V} {i : Nat} {d : D} (r : ReL K mg F H ds vs []) (h : ds[i]? = some d) : ∃ v, vs[i]? = some v ∧ Rep K mg F H d v [] := by
  obtain ⟨v, pre, a1, post, q1, q2, q3, _⟩ := ReL.at r h
  have hb : a1 = [] := by
    have := congrArg List.length q2
    simp only [List.length_nil, List.length_append] at this
    exact List.length_eq_zero_iff.mp (by omega)
  subst hb
  exact ⟨v, q1, q3⟩
/-- a frozen datum may be read at any later heap -/
theorem Rep.later {d : D} {v : V} {F2 H2 : Hp} (l : Le F F2) (h : Rep K mg F H d v []) : Rep K mg F2 H2 d v [] := Rep.mono l d v [] (fun _ z => absurd z (by simp)) h
theorem itok_lst {a : Addr} {ds : List D} {vs : List V} (hs : SqL K F a vs) (r : ReL K mg F H ds vs []) : ItOk K mg F (Itl K a) ds where
  go := fun i H2 F2 l1 l2 hi => by
    obtain ⟨v, hv, _⟩ := rel_at r (List.getElem?_eq_getElem hi)
    exact ⟨vs, v, (l1.trans l2).seqL hs, hv⟩
  yld := fun i H2 F2 x H3 d l1 l2 hd ⟨e, hy⟩ => by
    subst e
    obtain ⟨v, hv, rv⟩ := rel_at r hd
    have := hy vs ((l1.trans l2).seqL hs)
    rw [hv] at this
    cases this
    exact ⟨F2, Step.refl fun _ z => z, l2, rv.later l1⟩
  stop := fun H2 F2 l1 l2 => ⟨vs, (l1.trans l2).seqL hs, by rw [r.length]; exact Nat.le_refl _⟩
theorem itok_tup {a : Addr} {ds : List D} {vs : List V} (hs : SqT K F a vs) (r : ReL K mg F H ds vs []) : ItOk K mg F (Itt K a) ds where
  go := fun i H2 F2 l1 l2 hi => by
    obtain ⟨v, hv, _⟩ := rel_at r (List.getElem?_eq_getElem hi)
    exact ⟨vs, v, (l1.trans l2).seqT hs, hv⟩
  yld := fun i H2 F2 x H3 d l1 l2 hd ⟨e, hy⟩ => by
    subst e
    obtain ⟨v, hv, rv⟩ := rel_at r hd
    have := hy vs ((l1.trans l2).seqT hs)
    rw [hv] at this
    cases this
    exact ⟨F2, Step.refl fun _ z => z, l2, rv.later l1⟩
  stop := fun H2 F2 l1 l2 => ⟨vs, (l1.trans l2).seqT hs, by rw [r.length]; exact Nat.le_refl _⟩
theorem rgD_length (i : Int) (n : Nat) : (rgD i n).length = n := by unfold rgD; rw [List.length_map, List.length_range]
theorem rgD_at {i : Int} {n j : Nat} {d : D} (h : (rgD i n)[j]? = some d) : d = .int (i + (j : Int)) := by
  unfold rgD at h
  rw [List.getElem?_map] at h
  cases q : (List.range n)[j]? with
  | none => rw [q] at h; cases h
  | some m =>
    rw [q] at h
    obtain ⟨h1, h2⟩ := List.getElem?_eq_some_iff.mp q
    rw [List.getElem_range] at h2
    subst h2
    cases h
    rfl
theorem itok_rng (i : Int) (n : Nat) : ItOk K mg F (Itr i n) (rgD i n) where
  go := fun j H2 F2 l1 l2 hi => by rw [rgD_length] at hi; exact hi
  yld := fun j H2 F2 x H3 d l1 l2 hd ⟨e, hy⟩ => by
    subst e
    rw [rgD_at hd, hy]
    exact ⟨F2, Step.refl fun _ z => z, l2, by simp [Rep]⟩
  stop := fun H2 F2 l1 l2 => by rw [rgD_length]; exact Nat.le_refl _
theorem enD_at : ∀ {ds : List D} {n i : Nat} {d : D}, (enD n ds)[i]? = some d → ∃ c, ds[i]? = some c ∧ d = .tup [.int ((n + i : Nat) : Int), c]
  | [], n, i, d, h => by simp [enD] at h
  | c :: r, n, 0, d, h => by simp [enD] at h; exact ⟨c, rfl, h.symm⟩
  | c :: r, n, i + 1, d, h => by
    simp only [enD, List.getElem?_cons_succ] at h
    obtain ⟨c', h1, h2⟩ := enD_at h
    exact ⟨c', by simpa using h1, by rw [h2]; congr 3; omega⟩
theorem enD_length : ∀ (ds : List D) (n : Nat), (enD n ds).length = ds.length
  | [], n => rfl
  | c :: r, n => by simp only [enD, List.length_cons, enD_length r (n + 1)]
theorem itok_enum {a : Addr} {ds : List D} {vs : List V} (hs : SqL K F a vs) (r : ReL K mg F H ds vs []) : ItOk K mg F (Ite K a) (enD 0 ds) where
  go := fun i H2 F2 l1 l2 hi => by
    rw [enD_length] at hi
    obtain ⟨v, hv, _⟩ := rel_at r (List.getElem?_eq_getElem hi)
    exact ⟨vs, v, (l1.trans l2).seqL hs, hv⟩
  yld := fun i H2 F2 x H3 d l1 l2 hd ⟨T, y, ex, hT, eH, hy⟩ => by
    obtain ⟨c, hc, ed⟩ := enD_at hd
    obtain ⟨v, hv, rv⟩ := rel_at r hc
    have := hy vs ((l1.trans l2).seqL hs)
    rw [hv] at this
    cases this
    subst eH; subst ex; subst ed
    have hf : F2 T = none := by
      cases q : F2 T with
      | none => rfl
      | some o => rw [l2 T o q] at hT; cases hT
    refine ⟨upd F2 T (.tup [.int (i : Nat), y]), Step.newF hT hf, fun b o q => ?_, ?_⟩
    · by_cases z : b = T
      · subst z; rw [upd_same] at q ⊢; exact q
      · rw [upd_ne z] at q ⊢; exact l2 b o q
    · have l3 : Le F (upd F2 T (.tup [.int (i : Nat), y])) := fun b o q => by
        have q2 := l1 b o q
        rw [upd_ne (ne_of_none q2 hf)]; exact q2
      simp only [Rep, ReL]
      refine ⟨trivial, T, _, rfl, .inl (.inl upd_same), V.int (i : Nat), [y], [], [], rfl, rfl, ⟨by simp, rfl⟩, y, [], [], [], rfl, rfl, rv.later l3, rfl, rfl⟩
  stop := fun H2 F2 l1 l2 => ⟨vs, (l1.trans l2).seqL hs, by rw [enD_length, r.length]; exact Nat.le_refl _⟩
end
end Ev

set_option Elab.async false
set_option linter.all false
set_option maxRecDepth 100000
set_option maxHeartbeats 1000000
/-! Ev14: comprehensions. -/
namespace Ev
variable [TabsC]
open PySem L2

theorem R.bind_assoc {α β γ : Type} (x : R α) (f : α → R β) (g : β → R γ) : (x.bind f).bind g = x.bind fun a => (f a).bind g := by cases x <;> rfl

section
variable {K : PySem.W.Frag} {mg : Me} {F H F' H' : Hp} {σ : St} {e : En} {A A' : List Addr}
/-- slots are forgotten -/
theorem EL.wipe : ∀ (vs : List Nat) {A : List Addr}, A.Nodup → EL K mg F H e σ A → ∃ A', EL K mg F H (wipeE e vs) (wipe σ vs) A' ∧ A'.Nodup ∧ ∀ a ∈ A', a ∈ A
  | [], A, nd, h => ⟨A, h, nd, fun _ z => z⟩
  | v :: vs, A, nd, h => by
    obtain ⟨A1, h1, n1, s1⟩ := EL.wipe vs nd h
    obtain ⟨pre, a1, post, q1, _, _, q2⟩ := EL.drop (σ := L2.wipe σ vs) v h1
    refine ⟨pre ++ post, q2 none, ?_, fun a z => s1 a ?_⟩
    · rw [q1] at n1
      obtain ⟨m1, m2, m3⟩ := List.nodup_append.mp n1
      obtain ⟨k1, k2, k3⟩ := List.nodup_append.mp m1
      exact List.nodup_append.mpr ⟨k1, m2, fun a z b y => m3 a (List.mem_append_left _ z) b y⟩
    · rw [q1]
      rcases List.mem_append.mp z with z | z <;> simp [z]
theorem Sta.wipe (vs : List Nat) (S : Sta K mg F H σ e A) : ∃ A', Sta K mg F H (L2.wipe σ vs) (wipeE e vs) A' ∧ ∀ a ∈ A', a ∈ A := by
  obtain ⟨A', h1, h2, h3⟩ := EL.wipe vs S.nd S.el
  exact ⟨A', ⟨S.sub, h1, h2, fun a z => S.no a (h3 a z), S.ax⟩, h3⟩
def patchS (s0 : St) : St → List Nat → St
  | s, [] => s
  | s, v :: vs => patchS s0 (s.set v (match s0[v]? with | some o => o | none => none)) vs
/-- what is read back into forgotten slots owns nothing -/
theorem EL.patch {e0 : En} {s0 : St} : ∀ (vs : List Nat) {e : En} {σ : St} {A : List Addr}, A.Nodup → EL K mg F H e σ A → (∀ v ∈ vs, ∀ d, getE e0 v = some d → ∃ u, s0[v]? = some (some u) ∧ Rep K mg F H d u []) →
    ∃ A', EL K mg F H (patchE e0 e vs) (patchS s0 σ vs) A' ∧ A'.Nodup ∧ ∀ a ∈ A', a ∈ A
  | [], e, σ, A, nd, h, q => ⟨A, h, nd, fun _ z => z⟩
  | v :: vs, e, σ, A, nd, h, q => by
    have step : ∃ A1, EL K mg F H (e.set v (match e0[v]? with | some o => o | none => none)) (σ.set v (match s0[v]? with | some o => o | none => none)) A1 ∧ A1.Nodup ∧ ∀ a ∈ A1, a ∈ A := by
      obtain ⟨pre, a1, post, q1, _, _, q2⟩ := EL.drop (σ := σ) v h
      have nd1 : (pre ++ post).Nodup := by
        rw [q1] at nd
        obtain ⟨m1, m2, m3⟩ := List.nodup_append.mp nd
        obtain ⟨k1, k2, k3⟩ := List.nodup_append.mp m1
        exact List.nodup_append.mpr ⟨k1, m2, fun a z b y => m3 a (List.mem_append_left _ z) b y⟩
      have sub1 : ∀ a ∈ pre ++ post, a ∈ A := fun a z => by
        rw [q1]; rcases List.mem_append.mp z with z | z <;> simp [z]
      cases hg : getE e0 v with
      | none =>
        have : (match e0[v]? with | some o => o | none => none) = (none : Option D) := by
          unfold getE at hg
          split at hg
          · cases hg
          · rename_i hne
            split
            · rename_i o ho
              cases o with
              | none => rfl
              | some d => exact absurd ho (hne d)
            · rfl
        rw [this]
        exact ⟨pre ++ post, q2 _, nd1, sub1⟩
      | some d =>
        obtain ⟨u, hu, hr⟩ := q v List.mem_cons_self d hg
        have e1 : (match e0[v]? with | some o => o | none => none) = some d := by
          unfold getE at hg
          split at hg
          · rename_i d' ho
            cases hg
            rw [ho]
          · cases hg
        rw [e1, hu]
        by_cases hv : v < (e.set v none).length
        · obtain ⟨p1, b1, r1, w1, w2⟩ := EL.put (q2 none) hv
          have h3 := w2 d u [] hr
          rw [List.set_set, List.set_set] at h3
          refine ⟨p1 ++ [] ++ r1, h3, ?_, fun a z => sub1 a ?_⟩
          · rw [w1] at nd1
            obtain ⟨m1, m2, m3⟩ := List.nodup_append.mp nd1
            obtain ⟨k1, k2, k3⟩ := List.nodup_append.mp m1
            rw [List.append_nil]
            exact List.nodup_append.mpr ⟨k1, m2, fun a z b y => m3 a (List.mem_append_left _ z) b y⟩
          · rw [w1]
            simp only [List.append_nil, List.mem_append] at z ⊢
            rcases z with z | z <;> simp [z]
        · rw [List.length_set] at hv
          have l1 := h.length
          rw [List.set_eq_of_length_le (by omega), List.set_eq_of_length_le (by omega)]
          exact ⟨A, h, nd, fun _ z => z⟩
    obtain ⟨A1, h1, n1, s1⟩ := step
    obtain ⟨A2, h2, n2, s2⟩ := EL.patch vs n1 h1 fun w hw d hd => q w (List.mem_cons_of_mem _ hw) d hd
    exact ⟨A2, h2, n2, fun a z => s1 a (s2 a z)⟩
theorem wipe_get {σ : St} : ∀ (vs : List Nat) (j : Nat), (L2.wipe σ vs)[j]? = if j ∈ vs ∧ j < σ.length then some none else σ[j]?
  | [], j => by simp [L2.wipe]
  | v :: vs, j => by
    show ((L2.wipe σ vs).set v none)[j]? = _
    by_cases h : v = j
    · subst h
      by_cases hl : v < σ.length
      · rw [List.getElem?_set_self (by rw [L2.wipe_length]; exact hl)]
        simp [hl]
      · rw [List.getElem?_eq_none (by rw [List.length_set, L2.wipe_length]; omega)]
        rw [if_neg (fun z => hl z.2), List.getElem?_eq_none (by omega)]
    · rw [List.getElem?_set_ne h, wipe_get vs j]
      have : (j ∈ v :: vs) ↔ j ∈ vs := by simp [Ne.symm h]
      simp only [this]
theorem wipe_off {σ σ' : St} {vs : List Nat} {P : Nat → Prop} (hP : ∀ j, P j → j ∈ vs) (h : Off P (L2.wipe σ vs) σ') : L2.wipe σ' vs = L2.wipe σ vs := by
  refine List.ext_getElem? fun j => ?_
  have hl : σ'.length = σ.length := by rw [h.1, L2.wipe_length]
  rw [wipe_get, hl]
  by_cases q : j ∈ vs
  · by_cases hj : j < σ.length
    · rw [if_pos ⟨q, hj⟩, wipe_get, if_pos ⟨q, hj⟩]
    · rw [if_neg fun z => hj z.2, List.getElem?_eq_none (by omega), List.getElem?_eq_none (by rw [L2.wipe_length]; omega)]
  · rw [if_neg fun z => q z.1]
    exact h.2 j fun z => q (hP j z)
theorem patchS_get (s0 : St) : ∀ (vs : List Nat) (s : St) (j : Nat), s.length = s0.length → (patchS s0 s vs)[j]? = if j ∈ vs then s0[j]? else s[j]?
  | [], s, j, hl => by simp [patchS]
  | v :: vs, s, j, hl => by
    have ih := patchS_get s0 vs (s.set v (match s0[v]? with | some o => o | none => none)) j (by rw [List.length_set]; exact hl)
    show (patchS s0 (s.set v _) vs)[j]? = _
    rw [ih]
    by_cases q : j ∈ vs
    · simp [q]
    · by_cases h : v = j
      · subst h
        simp only [q, if_false, List.mem_cons, true_or, if_true]
        by_cases hv : v < s0.length
        · rw [List.getElem?_set_self (by omega), List.getElem?_eq_getElem hv]
        · rw [List.getElem?_eq_none (by rw [List.length_set]; omega), List.getElem?_eq_none (by omega)]
      · rw [List.getElem?_set_ne h]
        simp [q, Ne.symm h]
theorem patch_wipe (σ : St) (vs : List Nat) : patchS σ (L2.wipe σ vs) vs = σ := by
  refine List.ext_getElem? fun j => ?_
  rw [patchS_get σ vs _ j (L2.wipe_length _ _), wipe_get]
  by_cases q : j ∈ vs
  · rw [if_pos q]
  · rw [if_neg q, if_neg fun z => q z.1]
theorem Sta.back {F1 H1 : Hp} {e1 e2 : En} {A1 A2 : List Addr} {vs : List Nat} (S1 : Sta K mg F1 H1 σ e1 A1) (hf : freeE e1 vs = true) (l : Le F1 F) (S2 : Sta K mg F H (L2.wipe σ vs) (wipeE e2 vs) A2) : ∃ A', Sta K mg F H σ (backE e1 e2 vs) A' ∧ ∀ a ∈ A', a ∈ A2 := by
  have low : ∀ v ∈ vs, ∀ d, getE e1 v = some d → ∃ u, σ[v]? = some (some u) ∧ Rep K mg F H d u [] := by
    intro v hv d hd
    obtain ⟨u, pre, a1, post, q1, q2, q3, _⟩ := EL.at S1.el hd
    have ho : owned d = false := by
      have : ∀ (vs : List Nat), freeE e1 vs = true → v ∈ vs → owned d = false := by
        intro vs
        induction vs with
        | nil => intro _ z; exact absurd z (by simp)
        | cons w r ih =>
          intro h z
          unfold freeE at h
          rw [Bool.and_eq_true] at h
          rcases List.mem_cons.mp z with q | q
          · subst q
            rw [hd] at h
            simpa using h.1
          · exact ih h.2 q
      exact this vs hf hv
    rw [Rep.bare ho q3] at q3
    exact ⟨u, q1, q3.later l⟩
  obtain ⟨A', h1, h2, h3⟩ := EL.patch vs S2.nd S2.el low
  rw [patch_wipe] at h1
  exact ⟨A', ⟨S2.sub, h1, h2, fun a z => S2.no a (h3 a z), S2.ax⟩, h3⟩

/-- the list under way: at D, its items own bs -/
structure Way (K : PySem.W.Frag) (mg : Me) (D : Addr) (out : List Ev.D) (ws : List V) (bs : List Addr) (F H : Hp) (A : List Addr) : Prop where
  at_ : H D = some (.lst ws)
  rel : ReL K mg F H out ws bs
  nd : bs.Nodup
  ne : D ∉ bs
  dj : ∀ a ∈ D :: bs, a ∉ A ∧ F a = none
theorem Way.live {D : Addr} {out : List Ev.D} {ws : List V} {bs : List Addr} (w : Way K mg D out ws bs F H A) : ∀ a ∈ D :: bs, ∃ o, H a = some o := fun a z => by
  rcases List.mem_cons.mp z with q | q
  · exact ⟨_, by rw [q]; exact w.at_⟩
  · exact ReL.live _ _ _ w.rel a q
theorem Way.old {D : Addr} {out : List Ev.D} {ws : List V} {bs : List Addr} (w : Way K mg D out ws bs F H A) : ∀ a ∈ D :: bs, ¬ New H a := fun a z y => by
  rcases List.mem_cons.mp z with q | q
  · exact y _ (by rw [q]; exact w.at_) nt_lst
  · obtain ⟨o, ho⟩ := ReL.live _ _ _ w.rel a q
    exact y o ho (ReL.nt _ _ _ w.rel a q o ho)
theorem Way.past {D : Addr} {out : List Ev.D} {ws : List V} {bs cs : List Addr} (w : Way K mg D out ws bs F H A) (st : Step A H F (cs ++ A') H' F') : Way K mg D out ws bs F' H' A' ∧ ∀ a ∈ D :: bs, a ∉ cs := by
  have out' : ∀ a ∈ D :: bs, a ∉ cs ++ A' := fun a z q => by
    rcases st.own a q with y | y
    · exact (w.dj a z).1 y
    · exact w.old a z y
  refine ⟨⟨st.keep D _ w.at_ nt_lst (w.dj D List.mem_cons_self).1, ReL.mono st.le _ _ _ (fun a z o ho => st.keep a o ho (ReL.nt _ _ _ w.rel a z o ho) (w.dj a (List.mem_cons_of_mem _ z)).1) w.rel, w.nd, w.ne, fun a z => ⟨fun q => out' a z (List.mem_append_right _ q), ?_⟩⟩, fun a z q => out' a z (List.mem_append_left _ q)⟩
  cases q : F' a with
  | none => rfl
  | some o =>
    rcases st.fr a (by rw [q]; simp) with y | y | y
    · exact absurd (w.dj a z).2 y
    · exact absurd y (w.dj a z).1
    · exact (w.old a z y).elim
end

abbrev W0 (me : Me) : WL := ⟨fun _ _ _ _ => False, fun _ => True, me⟩
section
variable {M : Gb} {cl : Cl} {G : Cn} {k : Nat} {W : WL} {X : Cx}
theorem own_loc {scope : Scope} {j : Nat} (h : LocS (G.sub scope) j) : j ∈ (ownOf G.N scope).map (·.2) := by
  obtain ⟨x, hs, hl, _⟩ := h
  have hs : slotOf G.N x = some j := hs
  have key : ∃ kd, (kd = NameKind.local ∨ kd = NameKind.cell) ∧ (x, kd) ∈ scope.names := by
    unfold Cn.loc Cn.kind at hl
    have low : ∀ (ns : List (Str × NameKind)) (kd : NameKind), (ns.map fun (p : Str × NameKind) => if (p.2 == .free && G.sc.kind == .function && G.sc.names.lookup p.1 == some .cell) then (p.1, NameKind.cell) else (p.1, p.2)).lookup x = some kd → ∃ kd0, ns.lookup x = some kd0 ∧ (kd0 = kd ∨ (kd0 = .free ∧ kd = .cell)) := by
      intro ns kd
      induction ns with
      | nil => intro h; simp at h
      | cons p r ih =>
        obtain ⟨n, q⟩ := p
        intro h
        rw [List.map_cons] at h
        by_cases hx : (x == n) = true
        · refine ⟨q, by simp [List.lookup, hx], ?_⟩
          split at h
          · rename_i hc
            simp only [List.lookup, hx] at h
            simp only [Bool.and_eq_true] at hc
            exact .inr ⟨eq_of_beq hc.1.1, (Option.some.inj h).symm⟩
          · simp only [List.lookup, hx] at h
            exact .inl (Option.some.inj h)
        · have hx' : (x == n) = false := by simpa using hx
          have : (r.map fun (p : Str × NameKind) => if (p.2 == .free && G.sc.kind == .function && G.sc.names.lookup p.1 == some .cell) then (p.1, NameKind.cell) else (p.1, p.2)).lookup x = some kd := by
            split at h <;> simpa [List.lookup, hx'] using h
          obtain ⟨kd0, h1, h2⟩ := ih this
          exact ⟨kd0, by simpa [List.lookup, hx'] using h1, h2⟩
    have hsc : (G.sub scope).sc.names = scope.names.map fun (p : Str × NameKind) => if (p.2 == .free && G.sc.kind == .function && G.sc.names.lookup p.1 == some .cell) then (p.1, NameKind.cell) else (p.1, p.2) := rfl
    rw [hsc] at hl
    split at hl
    · rename_i q
      obtain ⟨kd0, h1, h2⟩ := low _ _ q
      rcases h2 with h2 | ⟨_, h2⟩
      · exact ⟨kd0, .inl h2, PySem.mem_of_lookup h1⟩
      · cases h2
    · have hl : (scope.names.lookup x == some NameKind.cell) = true := hl
      exact ⟨.cell, .inr rfl, PySem.mem_of_lookup (eq_of_beq hl)⟩
    · cases hl
  obtain ⟨kd, hk, hm⟩ := key
  refine List.mem_map.mpr ⟨(x, j), List.mem_filterMap.mpr ⟨(x, kd), hm, ?_⟩, rfl⟩
  rcases hk with hk | hk <;> subst hk <;> simp [hs]
end
end Ev

set_option Elab.async false
set_option linter.all false
set_option maxRecDepth 100000
set_option maxHeartbeats 2000000
/-! Ev15: a comprehension; what is walked. -/
namespace Ev
variable [TabsC]
open PySem L2

section
variable {M : Gb} {cl : Cl} {G : Cn} {k : Nat} {W : WL} {X : Cx}
/-- within a comprehension's block -/
theorem Good.blk (g : Good M cl G k W X) (s : Shared) (H : Hp) (scope : Scope) (C : Addr) (cells : List (Str × Addr)) (fp : List Addr) : Good M cl (G.sub scope) k (W0 W.me) (X.blk s H scope (compEnvC scope cells C X.env) fp) where
  N := g.N
  sc := by
    show relS scope X.env.scope = relS scope G.sc
    rw [g.sc]
  fn := rfl
  nd := g.nd
  nn := g.nn
  mod := g.mod
  me := g.me
  offL := fun _ _ => trivial
  calm := g.calm
  room := g.room
  guards := g.guards
  takes := fun _ _ x => by
    obtain ⟨_, _, _, _, _, _, _, _, _, _, _, _, _, _, _, _, z⟩ := x
    exact z.elim
  own := PassesOwn.never
  noclo := g.noclo
  calls := g.calls
  lows := fun h => by cases (show false = true from h)
  act := fun h => by cases (show false = true from h)
  mkl := fun h => by cases (show false = true from h)
theorem nilA' {A : List Addr} {H F : Hp} : Step A H F ([] ++ A) H F := Step.refl fun _ z => by simpa using z
theorem tI_of {σ : St} {H F H0 F0 : Hp} {e : En} {A B0 T : List Addr} {β : Type} {φ : β → Prop} {f : En → R (List Ev.D × En)} {R : It → Hp → Prop} (S : Sta X.K W.me F H σ e A) {g : List Ev.D × En → Ev.R β} (st0 : Step B0 H0 F0 (T ++ A) H F) (post : PostG X.K W σ B0 H0 F0 ((f e).bind g) φ)
    (k : ∀ ds e', f e = .ok (ds, e') → ∀ J H' F' A', Step A H F A' H' F' → Step B0 H0 F0 (T ++ A') H' F' → Sta X.K W.me F' H' σ e' A' → ItOk X.K W.me F' J ds → PostG X.K W σ B0 H0 F0 (g (ds, e')) φ → R J H') : tI X.K W.me W f σ H R := by
  refine ⟨e, F, A, S, ?_⟩
  cases hf : f e with
  | ok y =>
    rw [hf] at post
    exact fun J H' F' A' h1 h2 h3 => k y.1 y.2 hf J H' F' A' h1 (st0.trans (h1.frame T)) h2 h3 post
  | err c fs e' => rw [hf] at post; exact ErrP.before st0 post
  | stuck => rw [hf] at post; exact post
abbrev fElt (fe : En → R (RV × En)) : En → R (Ev.D × En) := fun e => (fe e).bind fun (v, e') => take e' v
theorem drop_cons {α : Type} {l : List α} {i : Nat} (h : i < l.length) : l.drop i = l[i] :: l.drop (i + 1) := List.drop_eq_getElem_cons h
abbrev fLc (G : Cn) (scope : Scope) (tg : Expr) (fi : En → R (List Ev.D × En)) (ft : En → R (Bool × En)) (fe : En → R (RV × En)) : En → R (RV × En) := fun e => (fi e).bind fun (ds, e1) => if freeE e1 ((ownOf G.N scope).map (·.2)) then
        (noErr <| lcL ((ownOf G.N scope).map (·.2)) (asgT (G.sub scope) tg) ft (fElt fe) ds [] e1).bind fun (out, e2) => .ok (.val (.lst .own out), backE e1 e2 ((ownOf G.N scope).map (·.2)))
        else .stuck
theorem lc_rd {tg : Expr} {scope : Scope} {fi : En → R (List Ev.D × En)} {fe : En → R (RV × En)} {ft : En → R (Bool × En)} {σ : St} {H : Hp} {Q : VK} (g : Good M cl G k W X) :
    tE X.K W.me W (fLc G scope tg fi ft fe) σ H Q → tLc (tI X.K W.me W fi) (tG X.K W.me (G.sub scope) (W0 W.me) (asgT (G.sub scope) tg)) (tT X.K W.me (W0 W.me) ft) (tE X.K W.me (W0 W.me) fe) ((ownOf G.N scope).map (·.2)) σ H Q := fun ⟨e, F, A, S, post⟩ => by
  unfold fLc at post
  have hloc : ∀ j, LocS (G.sub scope) j → j ∈ (ownOf G.N scope).map (·.2) := fun j h => own_loc h
  generalize (ownOf G.N scope).map (·.2) = vs at post hloc ⊢
  refine tI_of (T := []) S nilA' post fun ds e1 h1 J H1 F1 A1 st1 st01 S1 hJ post => ?_
  have st01 : Step A H F A1 H1 F1 := by simpa using st01
  by_cases hf : freeE e1 vs = true
  · simp only [hf, if_true] at post
    intro D hD
    -- what holds at the turn i
    let P : Nat → Hp → Prop := fun i H' => ∃ e' F' A' out ws bs, Sta X.K W.me F' H' (L2.wipe σ vs) (wipeE e' vs) A' ∧ Way X.K W.me D out ws bs F' H' A' ∧ Step A H F (D :: (bs ++ A')) H' F' ∧ Le F1 F' ∧
      PostG X.K W σ A H F ((noErr <| lcL vs (asgT (G.sub scope) tg) ft (fElt fe) (ds.drop i) out e').bind fun (out, e2) => .ok (.val (.lst .own out), backE e1 e2 vs)) (OkE X.K W.me σ A H F Q)
    have dF : F1 D = none := S1.fresh hD
    have start : P 0 (upd H1 D (.lst [])) := by
      obtain ⟨A2, S2, sub2⟩ := S1.wipe vs
      have new := Step.new (B := A1) (F := F1) (o := .lst []) hD
      refine ⟨e1, F1, A2, [], [], [], S2.past (fun a o q => ?_) (Le.refl _) (fun a z o q => ?_) S2.no (new.ax _ S1.ax), ⟨upd_same, by simp [ReL], .nil, by simp, fun a z => ?_⟩, ((st01.trans new).less fun x z => ?_), Le.refl _, by simpa using post⟩
      · rw [upd_ne (ne_of_none (S1.sub a o q) hD)]; exact S1.sub a o q
      · rw [upd_ne (ne_of_none q hD)]; exact q
      · have : a = D := by simpa using z
        subst this
        exact ⟨fun q => S1.live (sub2 a q) hD, dF⟩
      · simp only [List.nil_append, List.mem_cons] at z ⊢
        exact z.imp id (sub2 x)
    refine ⟨fun i m H' => m = ds.length - i ∧ i ≤ ds.length ∧ P i H', ⟨ds.length, by simp, Nat.zero_le _, start⟩, ?_⟩
    rintro i m H' ⟨rfl, hi, e', F', A', out, ws, bs, S', w, st, l1, post⟩
    by_cases hlt : i < ds.length
    · right
      refine ⟨hJ.go i H' F' l1 S'.sub hlt, P (i + 1), fun H2 h2 => ⟨ds.length - (i + 1), by omega, rfl, hlt, h2⟩, fun x H2 hy => ?_⟩
      rw [drop_cons hlt] at post
      simp only [lcL] at post
      obtain ⟨F2, st2, sub2, rx⟩ := hJ.yld i H' F' x H2 ds[i] l1 S'.sub (List.getElem?_eq_getElem hlt) hy
      -- the item has come
      have live2 : ∀ a ∈ A', ¬ New H' a := fun a z => S'.old z
      have S2 : Sta X.K W.me F2 H2 (L2.wipe σ vs) (wipeE e' vs) A' := S'.past sub2 st2.le (fun a z o q => st2.keep a o q (S'.nt z q) (by simp)) (fun a z => by
        cases q : F2 a with
        | none => rfl
        | some o =>
          rcases st2.fr a (by rw [q]; simp) with y | y | y
          · exact absurd (S'.no a z) y
          · exact absurd y (by simp)
          · exact absurd y (live2 a z)) (st2.ax _ S'.ax)
      have st2A : Step A' H' F' ([] ++ A') H2 F2 := by simpa using st2.frame A'
      obtain ⟨w2, _⟩ := w.past st2A
      have stt2 : Step A H F (D :: (bs ++ A')) H2 F2 := by
        have := st2.frame (D :: (bs ++ A'))
        rw [List.append_nil] at this
        exact st.trans this
      -- it goes to its names
      refine ⟨wipeE e' vs, F2, A', ds[i], [], S2, rx, .nil, fun a z => absurd z (by simp), ?_⟩
      cases ha : asgT (G.sub scope) tg ds[i] (wipeE e' vs) with
      | err _ _ _ => rw [ha] at post; simp only [R.bind, noErr] at post; exact post.elim
      | stuck => rw [ha] at post; exact post.elim
      | ok e2 =>
        rw [ha] at post
        simp only [R.bind] at post
        intro σ3 H3 F3 A3 st3 S3 off
        have wp := wipe_off hloc off
        refine ⟨wp, ?_⟩
        have st3 : Step A' H2 F2 A3 H3 F3 := by simpa using st3
        obtain ⟨w3, _⟩ := w2.past (cs := []) (by simpa using st3)
        have stt3 : Step A H F (D :: (bs ++ A3)) H3 F3 := by
          have := st3.frame (D :: bs)
          exact stt2.trans (by simpa using this)
        have l3 : Le F1 F3 := (l1.trans st2.le).trans st3.le
        -- what follows the tests where nothing is added
        have next : ∀ {e4 : En} {F4 H4 : Hp} {A4 : List Addr} {out' : List Ev.D} {ws' : List V} {bs' : List Addr}, Sta X.K W.me F4 H4 σ3 e4 A4 → Way X.K W.me D out' ws' bs' F4 H4 A4 → Step A H F (D :: (bs' ++ A4)) H4 F4 → Le F1 F4 →
            PostG X.K W σ A H F ((noErr <| lcL vs (asgT (G.sub scope) tg) ft (fElt fe) (ds.drop (i + 1)) out' e4).bind fun (out, e2) => .ok (.val (.lst .own out), backE e1 e2 vs)) (OkE X.K W.me σ A H F Q) → P (i + 1) H4 :=
          fun {e4 F4 H4 A4 out' ws' bs'} S4 w4 stt4 l4 post => by
            obtain ⟨A5, S5, sub5⟩ := S4.wipe vs
            rw [wp] at S5
            refine ⟨e4, F4, A5, out', ws', bs', S5, ⟨w4.at_, w4.rel, w4.nd, w4.ne, fun a z => ⟨fun q => (w4.dj a z).1 (sub5 a q), (w4.dj a z).2⟩⟩, stt4.less fun x z => ?_, l4, post⟩
            simp only [List.mem_cons, List.mem_append] at z ⊢
            rcases z with z | z | z
            · exact .inl z
            · exact .inr (.inl z)
            · exact .inr (.inr (sub5 x z))
        refine ⟨e2, F3, A3, S3, ?_⟩
        cases hb : ft e2 with
        | err _ _ _ => rw [hb] at post; simp only [R.bind, noErr] at post; exact post.elim
        | stuck => rw [hb] at post; exact post.elim
        | ok y =>
          obtain ⟨b, e4⟩ := y
          rw [hb] at post
          simp only [R.bind] at post
          intro H4 F4 A4 st4 S4
          obtain ⟨w4, _⟩ := w3.past (cs := []) (by simpa using st4)
          have stt4 : Step A H F (D :: (bs ++ A4)) H4 F4 := by
            have := st4.frame (D :: bs)
            exact stt3.trans (by simpa using this)
          have l4 : Le F1 F4 := l3.trans st4.le
          cases b with
          | false =>
            simp only [Bool.false_eq_true, if_false] at post ⊢
            exact next S4 w4 stt4 l4 post
          | true =>
            simp only [if_true] at post ⊢
            refine ⟨e4, F4, A4, S4, ?_⟩
            cases hv : fe e4 with
            | err _ _ _ => simp only [fElt, hv, R.bind, noErr] at post; exact post.elim
            | stuck => simp only [fElt, hv, R.bind] at post; exact post.elim
            | ok y =>
              obtain ⟨rv, e5⟩ := y
              simp only [fElt, hv, R.bind] at post
              intro u H5 F5 A5 as5 st5 S5 res5
              obtain ⟨w5, dj5⟩ := w4.past st5
              have stt5 : Step A H F (D :: (bs ++ (as5 ++ A5))) H5 F5 := by
                have := st5.frame (D :: bs)
                exact stt4.trans (by simpa using this)
              have has : ∀ a ∈ as5, a ∉ A5 := fun a z => by
                cases rv with
                | val d => exact (res5.2.2 a z).1
                | han i p => rw [res5.1] at z; exact absurd z (by simp)
              cases htk : take e5 rv with
              | err _ _ _ => exact (take_noerr htk).elim
              | stuck => rw [htk] at post; exact post.elim
              | ok y =>
                obtain ⟨d, e6⟩ := y
                rw [htk] at post
                simp only at post
                obtain ⟨F6, A6, as6, t6, S6, r6, n6, d6, i6, j6, u6⟩ := take_ok S5 res5 has htk
                obtain ⟨w6, _⟩ := w5.past (cs := []) (by simpa using u6)
                have hlen : out.length = ws.length := w6.rel.length
                by_cases hz : out.length < sizeLine
                · rw [if_pos hz] at post
                  refine ⟨ws, w6.at_, by rw [← hlen]; exact hz, ?_⟩
                  have l6 : Le F1 F6 := (l4.trans st5.le).trans u6.le
                  have nD6 : ∀ a ∈ as6, a ≠ D ∧ a ∉ bs := fun a z => ⟨fun q => dj5 D List.mem_cons_self (by rw [← q]; exact i6 a z), fun q => dj5 a (List.mem_cons_of_mem _ q) (i6 a z)⟩
                  have nDA : ∀ a ∈ A6, a ≠ D := fun a z q => (w6.dj D List.mem_cons_self).1 (by rw [← q]; exact z)
                  have wr := Step.write (B := D :: (bs ++ (as6 ++ A6))) (H := H5) (F := F6) (o := .lst (ws ++ [u])) (p := D) List.mem_cons_self w6.at_
                  have stt6 : Step A H F (D :: (bs ++ (as6 ++ A6))) H5 F6 := by
                    have := t6.frame (D :: bs)
                    exact stt5.trans (by simpa using this)
                  have kp : ∀ a, a ≠ D → ∀ o, H5 a = some o → upd H5 D (.lst (ws ++ [u])) a = some o := fun a na o q => by rw [upd_ne na]; exact q
                  have sub6 : Le F6 (upd H5 D (.lst (ws ++ [u]))) := fun a o q => by
                    refine kp a (fun z => ?_) o (S6.sub a o q)
                    rw [z, (w6.dj D List.mem_cons_self).2] at q; cases q
                  refine next (out' := out ++ [d]) (ws' := ws ++ [u]) (bs' := bs ++ as6) (S6.past sub6 (Le.refl _) (fun a z o q => kp a (nDA a z) o q) S6.no (wr.ax _ S6.ax)) ⟨upd_same, ?_, ?_, ?_, ?_⟩ ((stt6.trans wr).less fun x z => by simpa [List.append_assoc] using z) l6 post
                  · refine rel_append (ReL.mono (Le.refl _) _ _ _ (fun a z o q => kp a (fun y => w6.ne (by rw [← y]; exact z)) o q) w6.rel) ?_
                    simp only [ReL]
                    exact ⟨u, [], as6, [], rfl, by simp, Rep.mono (Le.refl _) _ _ _ (fun a z o q => kp a (nD6 a z).1 o q) r6, rfl, rfl⟩
                  · exact List.nodup_append.mpr ⟨w6.nd, n6, fun a z b y q => (nD6 b y).2 (by rw [← q]; exact z)⟩
                  · intro z
                    rcases List.mem_append.mp z with z | z
                    · exact w6.ne z
                    · exact (nD6 D z).1 rfl
                  · intro a z
                    rcases List.mem_cons.mp z with z | z
                    · exact w6.dj a (by rw [z]; exact List.mem_cons_self)
                    · rcases List.mem_append.mp z with z | z
                      · exact w6.dj a (List.mem_cons_of_mem _ z)
                      · exact d6 a z
                · rw [if_neg hz] at post; exact post.elim
    · left
      have hie : i = ds.length := by omega
      subst hie
      refine ⟨hJ.stop H' F' l1 S'.sub, ?_⟩
      rw [List.drop_length] at post
      simp only [lcL, R.bind, noErr] at post
      have post : OkE X.K W.me σ A H F Q (.val (.lst .own out), backE e1 e' vs) := post
      obtain ⟨A2, S2, sub2⟩ := S1.back hf l1 S'
      refine post (.ref D) H' F' A2 (D :: bs) (st.less fun x z => ?_) S2 ⟨?_, List.nodup_cons.mpr ⟨w.ne, w.nd⟩, fun a z => ⟨fun q => (w.dj a z).1 (sub2 a q), (w.dj a z).2⟩⟩
      · simp only [List.mem_cons, List.mem_append, List.cons_append] at z ⊢
        rcases z with z | z | z
        · exact .inl z
        · exact .inr (.inl z)
        · exact .inr (.inr (sub2 x z))
      · simp only [Rep]
        exact ⟨D, ws, bs, rfl, rfl, w.at_, w.rel⟩
  · simp only [hf] at post
    exact post.elim
/-- [elt for tg in iter if ..] -/
theorem sE_lc {elt tg iter : Expr} {ifs : List Expr} {scope : Scope} {pos : Pos} {fi : En → R (List Ev.D × En)} {fe : En → R (RV × En)} {ft : En → R (Bool × En)} (g : Good M cl G k W X) (hbl : blkC G.N G.sc scope (ownOf G.N scope) = true)
    (hi : PI X tg iter (tI X.K W.me W fi)) (he : ∀ X', Good M cl (G.sub scope) k (W0 W.me) X' → PE X' elt (tE X'.K W.me (W0 W.me) fe)) (ht : ∀ X', Good M cl (G.sub scope) k (W0 W.me) X' → PTs X' ifs (tT X'.K W.me (W0 W.me) ft))
    (hs : ∀ x, foldedSetIterable iter X.env x = pure x) :
    PE X (.ListComp elt [⟨tg, iter, ifs, 0⟩] scope pos) (tE X.K W.me W (fLc G scope tg fi ft fe)) :=
  PE.imp (pe_lc (te := tE X.K W.me (W0 W.me) fe) (tt := tT X.K W.me (W0 W.me) ft) (g := tG X.K W.me (G.sub scope) (W0 W.me) (asgT (G.sub scope) tg)) g.calm (by rw [g.N]; exact g.nd) hi (blkOk_by (by rw [g.N, g.sc]; exact hbl)) (fun s H C cs fp => sG (g.blk s H scope C cs fp) tg) (fun s H C cs fp => ht _ (g.blk s H scope C cs fp)) (fun s H C cs fp => he _ (g.blk s H scope C cs fp)) hs) fun σ H Q => lc_rd g
/-- name = [..] on one row -/
theorem sS_lc {i : Nat} {y : Str} {py : Pos} {elt tg iter : Expr} {ifs : List Expr} {scope : Scope} {pos spos : Pos} {fi : En → R (List Ev.D × En)} {fe : En → R (RV × En)} {ft : En → R (Bool × En)} (g : Good M cl G k W X) (hbl : blkC G.N G.sc scope (ownOf G.N scope) = true)
    (hy : X.N[i]? = some y) (hyl : X.env.scope.names.lookup y = some .local) (hsw : swapsWith (.ListComp elt [⟨tg, iter, ifs, 0⟩] scope pos) (some (.Name y py)) spos.line X.env = pure true)
    (hi : PI X tg iter (tI X.K W.me W fi)) (he : ∀ X', Good M cl (G.sub scope) k (W0 W.me) X' → PE X' elt (tE X'.K W.me (W0 W.me) fe)) (ht : ∀ X', Good M cl (G.sub scope) k (W0 W.me) X' → PTs X' ifs (tT X'.K W.me (W0 W.me) ft))
    (hs : ∀ x, foldedSetIterable iter X.env x = pure x) :
    PS X (.Assign [.Name y py] (.ListComp elt [⟨tg, iter, ifs, 0⟩] scope pos) spos) (tAsg (tE X.K W.me W (fLc G scope tg fi ft fe)) (gName i)) :=
  ⟨fun pins s σ H D I h => (ps_setLc (te := tE X.K W.me (W0 W.me) fe) (tt := tT X.K W.me (W0 W.me) ft) (g := tG X.K W.me (G.sub scope) (W0 W.me) (asgT (G.sub scope) tg)) g.calm (by rw [g.N]; exact g.nd) hy hyl hsw hi (blkOk_by (by rw [g.N, g.sc]; exact hbl)) (fun s H C cs fp => sG (g.blk s H scope C cs fp) tg) (fun s H C cs fp => ht _ (g.blk s H scope C cs fp)) (fun s H C cs fp => he _ (g.blk s H scope C cs fp)) hs).run pins s σ H D I (lc_rd g h)⟩
end
end Ev

set_option Elab.async false
set_option linter.all false
set_option maxRecDepth 100000
set_option maxHeartbeats 2000000
/-! Ev16: calls. -/
namespace Ev
variable [TabsC]
open PySem L2

theorem star_cons {env : PySem.Env} {a : Expr} {r : List Expr} (h : noStar (a :: r) = true) : starEach (a :: r) env = (false, eval a env) :: starEach r env ∧ noStar r = true := by
  cases a <;> first | exact ⟨rfl, h⟩ | (simp [noStar] at h)
theorem star_any {env : PySem.Env} {pos : Pos} : ∀ {r : List Expr}, noStar r = true → (backTo pos (starEach r env)).any (·.1) = false
  | [], _ => rfl
  | a :: r, h => by
    obtain ⟨h1, h2⟩ := star_cons (env := env) h
    rw [h1]
    show (false || (backTo pos (starEach r env)).any (·.1)) = false
    rw [star_any h2]; rfl

section
variable {K : PySem.W.Frag} {mg : Me} {F H : Hp} {σ : St}
theorem nodup_mid {pre a1 post : List Addr} (h : (pre ++ a1 ++ post).Nodup) : (pre ++ post).Nodup ∧ a1.Nodup ∧ (∀ a ∈ a1, a ∉ pre ++ post) := by
  obtain ⟨m1, m2, m3⟩ := List.nodup_append.mp h
  obtain ⟨k1, k2, k3⟩ := List.nodup_append.mp m1
  refine ⟨List.nodup_append.mpr ⟨k1, m2, fun a z b y => m3 a (List.mem_append_left _ z) b y⟩, k2, fun a z q => ?_⟩
  rcases List.mem_append.mp q with y | y
  · exact k3 a y a z rfl
  · exact m3 a (List.mem_append_right _ z) a y rfl
/-- arguments are lent -/
theorem lend_ok : ∀ {rvs : List RV} {e eR : En} {A A0 as : List Addr} {vs : List V} {ds : List D} {is : List (Option Nat)} {G : Hp}, EL K mg F H e σ A → A.Nodup → ResVs K mg F H σ A0 vs rvs as → Le F G → (∀ a ∈ as, ∀ o, H a = some o → G a = some o) → lend e rvs = some (ds, is, eR) →
    ∃ Ab Ar, EL K mg G H (ds.map some) (vs.map some) Ab ∧ EL K mg F H eR σ Ar ∧ (Ab ++ Ar).Nodup ∧ (∀ a ∈ Ab ++ Ar, a ∈ A) ∧
      ∀ (F2 H2 : Hp) (outs : List (Option D)) (Ab2 Ar2 : List Addr) (er e2 : En), EL K mg F2 H2 er σ Ar2 → EL K mg F2 H2 outs (vs.map some) Ab2 → (Ab2 ++ Ar2).Nodup → giveBack is outs er = some e2 → ∃ A2, EL K mg F2 H2 e2 σ A2 ∧ A2.Nodup ∧ ∀ a ∈ A2, a ∈ Ab2 ++ Ar2
  | [], e, eR, A, A0, as, vs, ds, is, G, h, nd, r, l, k, hl => by
    simp only [lend, Option.some.injEq, Prod.mk.injEq] at hl
    obtain ⟨e1, e2, e3⟩ := hl
    subst e1; subst e2; subst e3
    simp only [ResVs] at r
    obtain ⟨e1, e2⟩ := r
    subst e1; subst e2
    refine ⟨[], A, by simp [EL], h, by simpa using nd, fun a z => by simpa using z, fun F2 H2 outs Ab2 Ar2 er e2 q1 q2 q3 q4 => ?_⟩
    simp only [giveBack, Option.some.injEq] at q4
    subst q4
    exact ⟨Ar2, q1, (List.nodup_append.mp q3).2.1, fun a z => List.mem_append_right _ z⟩
  | .val d :: rvs, e, eR, A, A0, as, vs, ds, is, G, h, nd, r, l, k, hl => by
    simp only [lend] at hl
    split at hl
    · rename_i ds' is' e1 q
      simp only [Option.some.injEq, Prod.mk.injEq] at hl
      obtain ⟨x1, x2, x3⟩ := hl
      subst x1; subst x2; subst x3
      simp only [ResVs] at r
      obtain ⟨v, vr, a1, a2, ev, ea, _, h1, h2, dj⟩ := r
      subst ev; subst ea
      obtain ⟨Ab, Ar, w1, w2, w3, w4, w5⟩ := lend_ok h nd h2 l (fun a z => k a (List.mem_append_right _ z)) q
      have fz := Rep.freeze l d v a1 (fun a z => k a (List.mem_append_left _ z)) h1.1
      refine ⟨Ab, Ar, ?_, w2, w3, w4, fun F2 H2 outs Ab2 Ar2 er e2 q1 q2 q3 q4 => ?_⟩
      · simp only [List.map_cons, EL]
        exact ⟨v, vr.map some, [], Ab, rfl, rfl, Rep.mono (Le.refl G) _ _ _ (fun _ z => absurd z (by simp)) fz, w1⟩
      · cases outs with
        | nil => simp [EL] at q2
        | cons o outs =>
          simp only [giveBack] at q4
          cases o with
          | none =>
            simp only [List.map_cons, EL] at q2
            obtain ⟨o', r', er', q2⟩ := q2
            cases er'
            exact w5 F2 H2 outs Ab2 Ar2 er e2 q1 q2 q3 q4
          | some d2 =>
            simp only [List.map_cons, EL] at q2
            obtain ⟨v', r', b1, b2, er', eb, _, q2⟩ := q2
            cases er'
            subst eb
            have q3' : (b2 ++ Ar2).Nodup := by
              rw [List.append_assoc] at q3
              exact (List.nodup_append.mp q3).2.1
            obtain ⟨A2, z1, z2, z3⟩ := w5 F2 H2 outs b2 Ar2 er e2 q1 q2 q3' q4
            refine ⟨A2, z1, z2, fun a z => ?_⟩
            have := z3 a z
            simp only [List.mem_append] at this ⊢
            rcases this with y | y <;> simp [y]
    · cases hl
  | .han i [] :: rvs, e, eR, A, A0, as, vs, ds, is, G, h, nd, r, l, k, hl => by
    simp only [lend] at hl
    split at hl
    · rename_i d hd
      split at hl
      · rename_i ds' is' e1 q
        simp only [Option.some.injEq, Prod.mk.injEq] at hl
        obtain ⟨x1, x2, x3⟩ := hl
        subst x1; subst x2; subst x3
        simp only [ResVs] at r
        obtain ⟨v, vr, a1, a2, ev, ea, _, h1, h2, dj⟩ := r
        subst ev; subst ea
        obtain ⟨ea1, v0, hv0, hp⟩ := h1
        have hp : v = v0 := hp
        subst hp
        obtain ⟨pre, b1, post, q1, _, q3, q4⟩ := EL.drop (σ := σ) i h
        obtain ⟨v', hv', rp⟩ := q3 d hd
        rw [hv0] at hv'
        cases hv'
        have hr := q4 (some v)
        rw [set_self hv0] at hr
        rw [q1] at nd
        obtain ⟨n1, n2, n3⟩ := nodup_mid nd
        obtain ⟨Ab, Ar, w1, w2, w3, w4, w5⟩ := lend_ok hr n1 h2 l (fun a z => k a (List.mem_append_right _ z)) q
        refine ⟨b1 ++ Ab, Ar, ?_, w2, ?_, fun a z => ?_, fun F2 H2 outs Ab2 Ar2 er e2 q1' q2' q3' q4' => ?_⟩
        · simp only [List.map_cons, EL]
          exact ⟨v, vr.map some, b1, Ab, rfl, rfl, Rep.mono l _ _ _ (fun _ _ _ z => z) rp, w1⟩
        · rw [List.append_assoc]
          exact List.nodup_append.mpr ⟨n2, w3, fun a z b y e => n3 a z (by rw [e]; exact w4 b y)⟩
        · rw [q1]
          rw [List.append_assoc] at z
          rcases List.mem_append.mp z with z | z
          · simp [z]
          · have := w4 a z
            rcases List.mem_append.mp this with y | y <;> simp [y]
        · cases outs with
          | nil => simp [giveBack] at q4'
          | cons o outs =>
            cases o with
            | none => simp [giveBack] at q4'
            | some d2 =>
              simp only [giveBack] at q4'
              simp only [List.map_cons, EL] at q2'
              obtain ⟨v', r', c1, c2, er', eb, rp2, q2'⟩ := q2'
              cases er'
              subst eb
              have hi : i < er.length := by
                rw [q1'.length]
                exact (List.getElem?_eq_some_iff.mp hv0).1
              obtain ⟨pre2, b2, post2, z1, z2⟩ := EL.put q1' hi
              have z3 := z2 d2 v c1 rp2
              rw [set_self hv0] at z3
              rw [z1] at q3'
              have hnd : (c2 ++ (pre2 ++ c1 ++ post2)).Nodup := by
                rw [List.append_assoc] at q3'
                obtain ⟨m1, m2, m3⟩ := List.nodup_append.mp q3'
                obtain ⟨m4, m5, m6⟩ := List.nodup_append.mp m2
                obtain ⟨m7, m8, m9⟩ := nodup_mid m5
                obtain ⟨m10, m11, m12⟩ := List.nodup_append.mp m7
                refine List.nodup_append.mpr ⟨m4, List.nodup_append.mpr ⟨List.nodup_append.mpr ⟨m10, m1, fun a z b y e => m3 b y a (by simp [z]) e.symm⟩, m11, fun a z b y => ?_⟩, fun a z b y => ?_⟩
                · rcases List.mem_append.mp z with z | z
                  · exact m12 a z b y
                  · exact m3 a z b (by simp [y])
                · intro e
                  subst e
                  simp only [List.mem_append] at y
                  rcases y with (y | y) | y
                  · exact m6 a z a (by simp [y]) rfl
                  · exact m3 a y a (by simp [z]) rfl
                  · exact m6 a z a (by simp [y]) rfl
              obtain ⟨A2, y1, y2, y3⟩ := w5 F2 H2 outs c2 (pre2 ++ c1 ++ post2) (er.set i (some d2)) e2 z3 q2' hnd q4'
              refine ⟨A2, y1, y2, fun a z => ?_⟩
              have := y3 a z
              rw [z1]
              simp only [List.mem_append] at this ⊢
              rcases this with y | (y | y) | y <;> simp [y]
      · cases hl
    · cases hl
  | .han i (j :: p) :: rvs, e, eR, A, A0, as, vs, ds, is, G, h, nd, r, l, k, hl => by simp [lend] at hl
end

section
variable {M : Gb} {cl : Cl} {G : Cn} {k : Nat} {W : WL} {X : Cx}
theorem FnG.call {cl0 : Cl0} {l : Nat} {fa : Addr} {fd : FuncData} {ps : List Str} {f : Str} {pins : List (Addr × Obj)} {σ : St} {H : Hp} {s : Shared} {Q : VK} {E : XK} {us : List Value} {vs : List V} (g : Good M cl G k W X) (hr : Room l X.A)
    (Fg : FnG X.prog X.w X.K X.mg X.base (L2.CX X.prog X.w) l fa fd ps (spC X.prog X.w X.K X.mg X.base cl0 f)) (hb : Binds X.K fd ps [])
    (I : Inv X pins σ H s) (r : Vals vs us) (h : spC X.prog X.w X.K X.mg X.base cl0 f X.A X.stack s vs H Q E) (hW : ∀ cls d H', E cls d H' → W.w cls d σ H') : wpAny (model X.prog X.w) X.A (call (.ref fa) us) (EP X pins σ Q) X.xe s := by
  have hl : (us ++ []).length = ps.length := by rw [List.append_nil, ← r.length]; exact Fg.len _ _ _ _ _ _ _ h
  have bt := hb s us I.kIn hl
  rw [List.append_nil] at bt
  refine wpAny_call (codeAny_mono (Fg.run X.A X.stack s H ⟨us, []⟩ us vs Q E hr g.guards I.env0 bt r h) fun r s' hq => ?_)
  cases r with
  | error e => exact g.takes e s' (XE.of_call I hW hq)
  | ok fl =>
    cases fl with
    | ret u => exact I.after hq
    | next => exact False.elim hq
    | brk => exact False.elim hq
    | cont => exact False.elim hq
/-- the arguments have come: the def is called -/
theorem call_rest {cl0 : Cl0} {l : Nat} {fa : Addr} {fd : FuncData} {ps : List Str} {f : Str} {pins : List (Addr × Obj)} {σ : St} {H H1 F F1 : Hp} {s1 : Shared} {Q : VK} {A A1 as1 : List Addr} {rvs : List RV} {e1 : En} {us : List Value} {vs : List V}
    (g : Good M cl G k W X) (hr : Room l X.A) (hno : W.me.clo = none)
    (Fg : FnG X.prog X.w X.K X.mg X.base (L2.CX X.prog X.w) l fa fd ps (spC X.prog X.w X.K X.mg X.base cl0 f)) (hb : Binds X.K fd ps [])
    (I1 : Inv X pins σ H1 s1) (rv : Vals vs us) (st01 : Step A H F (as1 ++ A1) H1 F1) (S1 : Sta X.K W.me F1 H1 σ e1 A1) (res1 : ResVs X.K W.me F1 H1 σ A1 vs rvs as1) (post : PostG X.K W σ A H F (callF cl0 f rvs e1) (OkE X.K W.me σ A H F Q)) :
    wpAny (model X.prog X.w) X.A (call (.ref fa) us) (EP X pins σ Q) X.xe s1 := by
  refine FnG.call (f := f) (E := fun cls d H' => W.w cls d σ H') g hr Fg hb I1 rv ?_ fun _ _ _ h => h
  unfold callF at post
  cases hl : lend e1 rvs with
  | none => simp only [hl] at post; exact post.elim
  | some y =>
    obtain ⟨ds, is, eR⟩ := y
    simp only [hl] at post
    have dj1 : ∀ a ∈ as1, a ∉ A1 ∧ F1 a = none := by
      clear post
      have : ∀ (rvs : List RV) (vs : List V) (as : List Addr), ResVs X.K W.me F1 H1 σ A1 vs rvs as → ∀ a ∈ as, a ∉ A1 ∧ F1 a = none := by
        intro rvs
        induction rvs with
        | nil => intro vs as h a z; simp only [ResVs] at h; rw [h.2] at z; exact absurd z (by simp)
        | cons rv rvs ih =>
          intro vs as h a z
          simp only [ResVs] at h
          obtain ⟨v, r, a1, a2, e1, e2, fl, h1, h2, dj⟩ := h
          rw [e2] at z
          rcases List.mem_append.mp z with z | z
          · cases rv with
            | val d => exact h1.2.2 a z
            | han i p => rw [h1.1] at z; exact absurd z (by simp)
          · exact ih r a2 h2 a z
      exact this rvs vs as1 res1
    have nt1 : ∀ a ∈ as1, ∀ o, H1 a = some o → NT o := by
      clear post
      have : ∀ (rvs : List RV) (vs : List V) (as : List Addr), ResVs X.K W.me F1 H1 σ A1 vs rvs as → ∀ a ∈ as, ∀ o, H1 a = some o → NT o := by
        intro rvs
        induction rvs with
        | nil => intro vs as h a z; simp only [ResVs] at h; rw [h.2] at z; exact absurd z (by simp)
        | cons rv rvs ih =>
          intro vs as h a z
          simp only [ResVs] at h
          obtain ⟨v, r, a1, a2, e1, e2, fl, h1, h2, dj⟩ := h
          rw [e2] at z
          rcases List.mem_append.mp z with z | z
          · cases rv with
            | val d => exact Rep.nt d v a1 h1.1 a z
            | han i p => rw [h1.1] at z; exact absurd z (by simp)
          · exact ih r a2 h2 a z
      exact this rvs vs as1 res1
    have fl := frzAt_le (as := as1) S1.sub
    obtain ⟨Ab, Ar, w1, w2, w3, w4, w5⟩ := lend_ok S1.el S1.nd res1 fl (fun a z o ho => by rw [frzAt_in z]; exact ho) hl
    obtain ⟨nb, nr, nbr⟩ := List.nodup_append.mp w3
    have fzn : ∀ a ∈ A1, frzAt F1 H1 as1 a = none := fun a z => by rw [frzAt_out fun q => (dj1 a q).1 z]; exact S1.no a z
    have fz : Step (as1 ++ A1) H1 F1 (Ar ++ Ab) H1 (frzAt F1 H1 as1) := Step.freeze S1.sub (fun a z => List.mem_append_left _ z) nt1 fun a z => List.mem_append_right _ (w4 a (by
          rcases List.mem_append.mp z with z | z <;> simp [z]))
    have liveA : ∀ a ∈ Ar, ¬ New H1 a := fun a z => S1.old (w4 a (List.mem_append_right _ z))
    have elr : ∀ {H2 F2 : Hp} {asr Ab2 : List Addr}, Step Ab H1 (frzAt F1 H1 as1) (asr ++ Ab2) H2 F2 → EL X.K W.me F2 H2 eR σ Ar := fun {H2 F2 asr Ab2} st2 =>
      EL.mono (fl.trans st2.le) eR σ Ar (fun a z o ho => st2.keep a o ho (S1.nt (w4 a (List.mem_append_right _ z)) ho) fun y => nbr a y a z rfl) w2
    have outA : ∀ {H2 F2 : Hp} {asr Ab2 : List Addr}, Step Ab H1 (frzAt F1 H1 as1) (asr ++ Ab2) H2 F2 → ∀ a ∈ Ar, a ∉ asr ++ Ab2 := fun {H2 F2 asr Ab2} st2 a z q => by
      rcases st2.own a q with y | y
      · exact nbr a y a z rfl
      · exact liveA a z y
    have noA : ∀ {H2 F2 : Hp} {asr Ab2 : List Addr}, Step Ab H1 (frzAt F1 H1 as1) (asr ++ Ab2) H2 F2 → ∀ a ∈ Ar, F2 a = none := fun {H2 F2 asr Ab2} st2 a z => by
      cases q : F2 a with
      | none => rfl
      | some o =>
        rcases st2.fr a (by rw [q]; simp) with y | y | y
        · exact absurd (fzn a (w4 a (List.mem_append_right _ z))) y
        · exact absurd rfl (nbr a y a z)
        · exact absurd y (liveA a z)
    refine ⟨W.me, ds, frzAt F1 H1 as1, Ab, g.me, fun h => absurd hno h, ⟨frzAt_sub S1.sub, w1, nb, fun a z => fzn a (w4 a (List.mem_append_left _ z)), fz.ax _ S1.ax⟩, ?_⟩
    cases hc : cl0 f ds with
    | err c fs outs =>
      rw [hc] at post
      simp only [backF] at post
      intro cls d H2 F2 Ab2 x st2 S2
      cases hgb : giveBack is outs eR with
      | none => simp only [hgb] at post; exact post.elim
      | some e2 =>
        simp only [hgb] at post
        have st2' : Step Ab H1 (frzAt F1 H1 as1) ([] ++ Ab2) H2 F2 := by simpa using st2
        have hnd : (Ab2 ++ Ar).Nodup := List.nodup_append.mpr ⟨S2.nd, nr, fun a z b y e => outA st2' b y (by rw [← e]; simpa using z)⟩
        obtain ⟨A2, z1, z2, z3⟩ := w5 F2 H2 outs Ab2 Ar eR e2 (elr st2') S2.el hnd hgb
        have stt := (st01.trans fz).trans (st2.frame Ar)
        refine (show ErrP X.K W σ A H F c fs e2 from post) cls d σ H2 F2 A2 x (stt.less fun y z => ?_) ⟨S2.sub, z1, z2, fun a z => ?_, S2.ax⟩ (Off.refl _ _)
        · rcases List.mem_append.mp (z3 y z) with q | q <;> simp [q]
        · rcases List.mem_append.mp (z3 a z) with y | y
          · exact S2.no a y
          · exact noA st2' a y
    | stuck => rw [hc] at post; exact post.elim
    | ok y =>
      obtain ⟨d, outs⟩ := y
      rw [hc] at post
      simp only [backF] at post
      intro v H2 F2 Ab2 asr st2 S2 rp nd dj
      cases hgb : giveBack is outs eR with
      | none => simp only [hgb] at post; exact post.elim
      | some e2 =>
        simp only [hgb] at post
        have hnd : (Ab2 ++ Ar).Nodup := List.nodup_append.mpr ⟨S2.nd, nr, fun a z b y e => outA st2 b y (by rw [← e]; exact List.mem_append_right _ z)⟩
        obtain ⟨A2, z1, z2, z3⟩ := w5 F2 H2 outs Ab2 Ar eR e2 (elr st2) S2.el hnd hgb
        have stt := (st01.trans fz).trans (st2.frame Ar)
        refine (show OkE X.K W.me σ A H F Q (.val d, e2) from post) v H2 F2 A2 asr (stt.less fun x z => ?_) ⟨S2.sub, z1, z2, fun a z => ?_, S2.ax⟩ ⟨rp, nd, fun a z => ⟨fun q => ?_, (dj a z).2⟩⟩
        · simp only [List.mem_append] at z ⊢
          rcases z with z | z
          · exact .inr (.inl z)
          · have := z3 x z
            simp only [List.mem_append] at this
            rcases this with y | y
            · exact .inr (.inr y)
            · exact .inl y
        · rcases List.mem_append.mp (z3 a z) with y | y
          · exact S2.no a y
          · exact noA st2 a y
        · rcases List.mem_append.mp (z3 a q) with y | y
          · exact (dj a z).1 y
          · exact outA st2 a y (List.mem_append_left _ z)
theorem at_stuck {f : Str} {rvs : List RV} {e : En} (h : G.hc = true) : callF (cl.at G) f rvs e = .stuck := by
  unfold callF Cl.at
  rw [if_pos h]
  cases lend e rvs <;> rfl
/-- f(a, ..), f a def of the module -/
theorem sE_call {f : Str} {p pos : Pos} {a : Expr} {r : List Expr} {fa : En → R (List RV × En)} (g : Good M cl G k W X) (hn : noStar (a :: r) = true) (hg : G.glob f = true) (hd : M.defs.contains f = true) (ha : PA X (a :: r) (tA X.K W.me W fa)) :
    PE X (.Call (.Name f p) (a :: r) [] pos) (tE X.K W.me W fun e => (fa e).bind fun (vs, e1) => callF (cl.at G) f vs e1) := by
  obtain ⟨n1, n2⟩ := g.mod.nm f (.inr (.inl hd))
  obtain ⟨s1, s2⟩ := star_cons (env := X.env) hn
  obtain ⟨ad, fd, ps, hm, hk, hb, Fg⟩ := g.calls f hd
  refine ⟨fun pins s σ H Q I ⟨e, F, A, S, post⟩ => ?_⟩
  refine wpAny_Call_Name_kw (ld_glob I (g.glob hg) hm ?_ n1)
  refine PySem.W.callWith_K (h₀ := X.base) I.ok.mod.kin hk ?_ s1 (star_any s2)
  refine seqA (T := []) ha I S nilA post fun rvs e1 h1 vs us s1 H1 F1 A1 as1 I1 rv st1 st01 S1 res1 post => ⟨I1.kIn, ?_⟩
  by_cases hc : G.hc = true
  · simp only [at_stuck hc] at post; exact post.elim
  · exact call_rest g g.room (g.noclo (by simpa using hc)) Fg hb I1 rv (by simpa using st01) S1 res1 post
/-- x(a, ..), x a slot that holds a def of the module -/
theorem sE_callL {f : Str} {i : Nat} {p pos : Pos} {a : Expr} {r : List Expr} {fa : En → R (List RV × En)} (g : Good M cl G k W X) (hn : noStar (a :: r) = true) (hs : slotOf G.N f = some i) (hv : G.vis f = true) (ha : PA X (a :: r) (tA X.K W.me W fa)) :
    PE X (.Call (.Name f p) (a :: r) [] pos) (tE X.K W.me W fun e => match getE e i with
        | some (.fn y) => if M.defs.contains y then (fa e).bind fun (vs, e1) => callF (cl.at G) y vs e1 else .stuck
        | _ => .stuck) := by
  obtain ⟨s1, s2⟩ := star_cons (env := X.env) hn
  obtain ⟨h1, h2⟩ := g.dbg hs
  refine ⟨fun pins s σ H Q I ⟨e, F, A, S, post⟩ => ?_⟩
  cases hg : getE e i with
  | none => simp only [hg] at post; exact post.elim
  | some d =>
    cases d with
    | fn y =>
      simp only [hg] at post
      by_cases hd : M.defs.contains y = true
      · rw [if_pos hd] at post
        obtain ⟨ad, fd, ps, hm, hk, hb, Fg⟩ := g.calls y hd
        obtain ⟨v, pre, a1, po, q1, q2, q3, _⟩ := EL.at S.el hg
        simp only [Rep] at q3
        obtain ⟨_, ad', ev, hm'⟩ := q3
        have e2 := g.me.of y ad (g.mod.defs y hd).1 hm
        rw [e2] at hm'
        cases hm'
        subst ev
        refine wpAny_Call_Name_kw (thn ((pe_var (pos := p) (g.at_ hs) (g.vis hv) h1 h2).run pins s σ H (fun v H1 => v = .ref ad ∧ H1 = H) I ⟨.ref ad, q1, rfl, rfl⟩) fun u s0 ⟨v, H0, I0, r0, z0⟩ => ?_)
        obtain ⟨rfl, rfl⟩ := z0
        cases r0
        refine PySem.W.callWith_K (h₀ := X.base) I.ok.mod.kin hk ?_ s1 (star_any s2)
        refine seqA (T := []) ha I0 S nilA post fun rvs e1 h1 vs us s1 H1 F1 A1 as1 I1 rv st1 st01 S1 res1 post => ⟨I1.kIn, ?_⟩
        by_cases hc : G.hc = true
        · simp only [at_stuck hc] at post; exact post.elim
        · exact call_rest g g.room (g.noclo (by simpa using hc)) Fg hb I1 rv (by simpa using st01) S1 res1 post
      · rw [if_neg hd] at post; exact post.elim
    | _ => simp only [hg] at post; exact post.elim
/-- x(), x a slot that holds a lambda that was handed here -/
theorem sE_callC {f : Str} {i : Nat} {p pos : Pos} (g : Good M cl G k W X) (hs : slotOf G.N f = some i) (hv : G.vis f = true) : PE X (.Call (.Name f p) [] [] pos) (tE X.K W.me W (callC G i)) := by
  by_cases hc : G.clo = true
  · have h := g.act hc X.pn X.xe W i f p pos rfl g.takes hs hv
    refine PE.imp h fun σ H Q ⟨e, F, A, S, post⟩ => ⟨e, F, A, S, ?_⟩
    unfold callC at post
    rw [if_pos hc] at post
    exact post
  · refine ⟨fun pins s σ H Q I ⟨e, F, A, S, post⟩ => ?_⟩
    unfold callC at post
    rw [if_neg hc] at post
    exact post.elim
/-- a built-in function's rule by data -/
def rBlt (K : PySem.W.Frag) (mg : Me) (b : Bl) : List V → Hp → VK → Prop := fun vs H Q => ∃ F ds d, Le F H ∧ RelD K mg F H ds vs ∧ callB b ds = some d ∧ Gv K mg H F d Q
theorem call_blt {b : Bl} (g : Good M cl G k W X) : CallR X (bval b) (rBlt X.K W.me b) := by
  intro pins s σ H xs us Q I r ⟨F, ds, d, sub, h, e, gv⟩
  exact callB_ok g.room g.guards g.calm I r sub h e gv
theorem pe_blt {b : Bl} {f : Str} {p pos : Pos} {a : Expr} {r : List Expr} {t : TA} (g : Good M cl G k W X) (hn : noStar (a :: r) = true) (hg : G.glob f = true) (hf : M.free.contains f = true) (hb : bltOf f = some b) (ha : PA X (a :: r) t) :
    PE X (.Call (.Name f p) (a :: r) [] pos) (tCB (rBlt X.K W.me b) t) := by
  obtain ⟨n1, n2⟩ := g.mod.nm f (.inr (.inr hf))
  obtain ⟨s1, s2⟩ := star_cons (env := X.env) hn
  have hm := g.mod.free f hf
  have hv := boot_ok hb
  have hc := call_blt (b := b) g
  cases b <;> first
    | exact pe_callB hc (g.glob hg) hm hv ha n2 n1 s1 (star_any s2)
    | exact pe_callTy hc (g.glob hg) hm hv ha n2 n1 s1 (star_any s2)
/-- a function of a built-in module -/
theorem pe_mod {b : Bl} {f : Str} {p pos : Pos} {a : Expr} {r : List Expr} {t : TA} (g : Good M cl G k W X) (hn : noStar (a :: r) = true) (hg : G.glob f = true) (hb : M.mods.lookup f = some b) (ha : PA X (a :: r) t) :
    PE X (.Call (.Name f p) (a :: r) [] pos) (tCB (rBlt X.K W.me b) t) := by
  obtain ⟨hm, n1, e⟩ := g.mod.mods f b hb
  subst e
  obtain ⟨s1, s2⟩ := star_cons (env := X.env) hn
  exact pe_callBfun (call_blt (b := .gcd) g) (g.glob hg) hm ha n1 s1 (star_any s2)
end
end Ev

set_option Elab.async false
set_option linter.all false
set_option maxRecDepth 100000
set_option maxHeartbeats 2000000
/-! Ev17: what is walked. -/
namespace Ev
variable [TabsC]
open PySem L2

section
variable {K : PySem.W.Frag} {mg : Me} {F H : Hp} {σ : St} {e e' : En} {A as : List Addr} {v : V} {rv : RV} {d : D}
theorem takeF_noerr {c : Str} {fs : List (Str × D)} {e1 : En} (h : takeF e rv = .err c fs e1) : False := by
  unfold takeF at h
  cases q : take e rv with
  | ok y => rw [q] at h; cases h
  | err _ _ _ => exact take_noerr q
  | stuck => rw [q] at h; cases h
theorem takeF_ok (S : Sta K mg F H σ e A) (h : ResV K mg F H σ A v rv as) (ht : takeF e rv = .ok (d, e')) :
    ∃ F' A', Step (as ++ A) H F A' H F' ∧ Sta K mg F' H σ e' A' ∧ Rep K mg F' H d v [] := by
  unfold takeF at ht
  cases q : take e rv with
  | err _ _ _ => exact (take_noerr q).elim
  | stuck => rw [q] at ht; cases ht
  | ok y =>
    obtain ⟨d1, e1⟩ := y
    rw [q] at ht
    simp only [R.bind, R.ok.injEq, Prod.mk.injEq] at ht
    obtain ⟨x1, x2⟩ := ht
    subst x1; subst x2
    have ha : ∀ a ∈ as, a ∉ A := fun a z => by
      cases rv with
      | val d => exact (h.2.2 a z).1
      | han i p => rw [h.1] at z; exact absurd z (by simp)
    obtain ⟨F1, A1, b1, s1, S1, r1, n1, d1', i1, j1, t1⟩ := take_ok S h ha q
    have fz : Step (b1 ++ A1) H F1 A1 H (frzAt F1 H b1) := Step.freeze S1.sub (fun a z => List.mem_append_left _ z) (Rep.nt _ _ _ r1) fun a z => List.mem_append_right _ z
    have S' : Sta K mg (frzAt F1 H b1) H σ e1 A1 := S1.past (frzAt_sub S1.sub) (frzAt_le S1.sub) (fun _ _ _ q => q) (fun a z => by
      rw [frzAt_out fun q => (d1' a q).1 z]; exact S1.no a z) (fz.ax _ S1.ax)
    exact ⟨_, A1, s1.trans fz, S', Rep.freeze (frzAt_le (as := b1) S1.sub) _ _ _ (fun a z o q => by rw [frzAt_in z]; exact q) r1⟩
theorem rep_lstF {m : Mk} {ds : List D} (h : Rep K mg F H (.lst m ds) v []) : ∃ a vs, v = .ref a ∧ SqL K F a vs ∧ ReL K mg F H ds vs [] := by
  cases m with
  | own =>
    simp only [Rep] at h
    obtain ⟨a, vs, bs, _, e, _⟩ := h
    cases e
  | fro =>
    simp only [Rep] at h
    obtain ⟨_, a, vs, ev, hs, hr⟩ := h
    exact ⟨a, vs, ev, .inl (.inl hs), hr⟩
  | ext =>
    simp only [Rep] at h
    obtain ⟨_, a, vs, ev, hs, hr⟩ := h
    exact ⟨a, vs, ev, hs, hr⟩
end

section
variable {M : Gb} {cl : Cl} {G : Cn} {k : Nat} {W : WL} {X : Cx} {tg : Expr}
theorem it_list {pins : List (Addr × Obj)} {σ : St} {H : Hp} {s : Shared} {a : Addr} {xs : List V} {RI : It → Hp → Prop} {E : Value → Shared → Prop} (I : Inv X pins σ H s) (hq : SqL X.K H a xs) (q : RI (Itl X.K a) H) :
    wpAny (model X.prog X.w) X.A (pyIter (.ref a)) (PIE X pins σ tg RI) E s := by
  obtain ⟨its, _, p, _⟩ := I.list hq
  refine wpAny_pyIter_list p.isList ⟨s.heap.objs.size, [s.heap.objs.size], _, _, H, rfl, ?_, turn_list a _, ⟨_, Heap.get?_push_size _ rfl, rfl, rfl⟩, fun b hb => ?_, q⟩
  · exact I.kept (t' := s.toks) fun b o e => Heap.get?_push_of_some _ e
  · rw [List.mem_singleton.mp hb]
    exact I.fpOk (Nat.le_refl _) (I.hok.fresh (Nat.le_refl _))
theorem it_tup {pins : List (Addr × Obj)} {σ : St} {H : Hp} {s : Shared} {a : Addr} {xs : List V} {RI : It → Hp → Prop} {E : Value → Shared → Prop} (I : Inv X pins σ H s) (hq : SqT X.K H a xs) (q : RI (Itt X.K a) H) :
    wpAny (model X.prog X.w) X.A (pyIter (.ref a)) (PIE X pins σ tg RI) E s := by
  obtain ⟨its, _, p, _⟩ := I.tuple hq
  refine wpAny_pyIter_tuple (show s.heap.IsTuple a its.toArray from p) ⟨s.heap.objs.size, [s.heap.objs.size], _, _, H, rfl, ?_, turn_tuple a _, ⟨_, Heap.get?_push_size _ rfl, rfl, rfl⟩, fun b hb => ?_, q⟩
  · exact I.kept (t' := s.toks) fun b o e => Heap.get?_push_of_some _ e
  · rw [List.mem_singleton.mp hb]
    exact I.fpOk (Nat.le_refl _) (I.hok.fresh (Nat.le_refl _))
abbrev fWalk (f : En → R (RV × En)) : En → R (List D × En) := fun e => (f e).bind fun (v, e1) => (takeF e1 v).bind fun (d, e2) => match d with
    | .tup ds => .ok (ds, e2)
    | .lst _ ds => .ok (ds, e2)
    | _ => .stuck
/-- a list or a tuple -/
theorem sW {a : Expr} {f : En → R (RV × En)} (ha : PE X a (tE X.K W.me W f)) : PI X tg a (tI X.K W.me W (fWalk f)) := by
  refine ⟨fun pins s σ H RI I ⟨e, F, A, S, post⟩ => ?_⟩
  refine seqE (T := []) ha I S nilA post fun rv e1 h1 v u s1 H1 F1 A1 as1 I1 r1 st1 st01 S1 res1 post => ?_
  cases ht : takeF e1 rv with
  | err _ _ _ => exact (takeF_noerr ht).elim
  | stuck => simp only [ht, R.bind] at post; exact post.elim
  | ok y =>
    obtain ⟨d, e2⟩ := y
    simp only [ht, R.bind] at post
    obtain ⟨F2, A2, s2, S2, r2⟩ := takeF_ok S1 res1 ht
    have st2 : Step A H F A2 H1 F2 := (show Step A H F (as1 ++ A1) H1 F1 by simpa using st01).trans s2
    cases d <;> first | exact post.elim | skip
    · have post : OkI X.K W.me σ A H F RI _ := post
      obtain ⟨p, vs, ev, hs, hr⟩ := rep_tup r2
      subst ev
      cases r1
      exact it_tup I1 (S2.sub.seqT hs) (post _ H1 F2 A2 st2 S2 (itok_tup hs hr))
    · have post : OkI X.K W.me σ A H F RI _ := post
      obtain ⟨p, vs, ev, hs, hr⟩ := rep_lstF r2
      subst ev
      cases r1
      exact it_list I1 (S2.sub.seqL hs) (post _ H1 F2 A2 st2 S2 (itok_lst hs hr))
theorem rg_ok {j : Int} (h : rgOk j = true) : -(2 ^ 62) ≤ j ∧ j < 2 ^ 62 := by
  simp only [rgOk, Bool.and_eq_true, decide_eq_true_eq] at h
  exact h
theorem sR1 {a : Expr} {p pos : Pos} {f : En → R (RV × En)} (g : Good M cl G k W X) (hn : noStar [a] = true) (hg : G.glob "range" = true) (hf : M.free.contains "range" = true) (ha : PE X a (tE X.K W.me W f)) :
    PI X tg (.Call (.Name "range" p) [a] [] pos) (tI X.K W.me W fun e => (f e).bind fun (v, e1) => match content e1 v with | some (.int j) => if rgOk j then .ok (rgD 0 j.toNat, e1) else .stuck | _ => .stuck) := by
  obtain ⟨s1, _⟩ := star_cons (env := X.env) hn
  refine ⟨fun pins s σ H R I ⟨e, F, A, S, post⟩ => (pi_range1 (g.glob hg) (g.mod.free _ hf) (pa_cons ha pa_nil s1) s1).run pins s σ H R I ?_⟩
  refine tE_of (T := []) S nilA post fun rv e1 h1 v H1 F1 A1 as1 st1 st01 S1 res1 post => ?_
  cases ca : content e1 rv with
  | none => simp only [ca] at post; exact post.elim
  | some x =>
    simp only [ca] at post
    cases x <;> first | exact post.elim | skip
    rename_i j
    obtain ⟨a1, q1, _⟩ := ResV.content S1 res1 ca
    simp only [Rep] at q1
    by_cases hj : rgOk j = true
    · simp only [hj, if_true] at post
      have st2 : Step A H F A1 H1 F1 := (show Step A H F (as1 ++ A1) H1 F1 by simpa using st01).less fun x z => List.mem_append_right _ z
      exact ⟨j, by rw [q1.1], (rg_ok hj).1, (rg_ok hj).2, post _ H1 F1 A1 st2 S1 (itok_rng 0 j.toNat)⟩
    · simp only [hj] at post; exact post.elim
theorem sR2 {a b : Expr} {p pos : Pos} {f fb : En → R (RV × En)} (g : Good M cl G k W X) (hn : noStar [a, b] = true) (hg : G.glob "range" = true) (hf : M.free.contains "range" = true) (ha : PE X a (tE X.K W.me W f)) (hb : PE X b (tE X.K W.me W fb)) (ga : ∀ e v e', f e = .ok (v, e') → flat v = true) :
    PI X tg (.Call (.Name "range" p) [a, b] [] pos) (tI X.K W.me W fun e => (f e).bind fun (v, e1) => (fb e1).bind fun (w, e2) => match content e2 v, content e2 w with
          | some (.int i), some (.int j) => if rgOk i && rgOk j then .ok (rgD i (j - i).toNat, e2) else .stuck
          | _, _ => .stuck) := by
  obtain ⟨s1, n2⟩ := star_cons (env := X.env) hn
  obtain ⟨s2, _⟩ := star_cons (env := X.env) n2
  refine ⟨fun pins s σ H R I ⟨e, F, A, S, post⟩ => (pi_range2 (g.glob hg) (g.mod.free _ hf) (pa_cons ha (pa_cons hb pa_nil s2) s1) (by rw [s1, s2]; rfl) (by rw [s2]; rfl)).run pins s σ H R I ?_⟩
  refine tE_of (T := []) S nilA post fun rv e1 h1 v H1 F1 A1 as1 st1 st01 S1 res1 post => ?_
  refine tE_of (T := as1) S1 (by simpa using st01) post fun rw e2 h2 w H2 F2 A2 as2 st2 st02 S2 res2 post => ?_
  obtain ⟨res1', _⟩ := res1.past (ga _ _ _ h1) st2
  cases ca : content e2 rv with
  | none => simp only [ca] at post; exact post.elim
  | some x =>
    cases cb : content e2 rw with
    | none => simp only [ca, cb] at post; cases x <;> exact post.elim
    | some y =>
      simp only [ca, cb] at post
      cases x <;> first | exact post.elim | skip
      rename_i i
      cases y <;> first | exact post.elim | skip
      rename_i j
      have post : PostG X.K W σ A H F (if (rgOk i && rgOk j) = true then .ok (rgD i (j - i).toNat, e2) else .stuck) (OkI X.K W.me σ A H F R) := post
      obtain ⟨a1, q1, _⟩ := ResV.content S2 res1' ca
      obtain ⟨a2, q2, _⟩ := ResV.content S2 res2 cb
      simp only [Rep] at q1 q2
      by_cases hj : (rgOk i && rgOk j) = true
      · rw [if_pos hj] at post
        rw [Bool.and_eq_true] at hj
        have st3 : Step A H F A2 H2 F2 := st02.less fun x z => by simp [z]
        exact ⟨i, j, by rw [q1.1, q2.1], ⟨(rg_ok hj.1).1, (rg_ok hj.1).2, (rg_ok hj.2).1, (rg_ok hj.2).2⟩, post _ H2 F2 A2 st3 S2 (itok_rng i _)⟩
      · rw [if_neg hj] at post; exact post.elim
end
end Ev

set_option Elab.async false
set_option linter.all false
set_option maxRecDepth 100000
set_option maxHeartbeats 4000000
/-! EvR: t[::-1] of a tuple. -/
namespace Ev
variable [TabsC]
open PySem L2 PySem.Spec
open PyProof.Rows (subscriptTail tail_any slicePart_none slicePart_int tupleItemsOf_ slot_tuple_getitem entry_tuple_getitem args_tuple_getitem IsTup Subscript_)
open HT

section
variable {prog : Program} {w : World} {A : Around} {E : Value → Shared → Prop} {s : Shared}
theorem rev_places (n : Nat) : Builtin.Slice.slicePlaces ((n : Int) - 1) (-1) (-1) = n := by
  unfold Builtin.Slice.slicePlaces
  have h1 : ¬ ((-1 : Int) > 0) := by omega
  simp only [h1, if_false]
  by_cases h : (n : Int) - 1 > -1
  · simp only [h, if_true]
    have e : ((n : Int) - 1 - -1 - 1) / (- -1) = (n : Int) - 1 := by
      rw [show (- -1 : Int) = 1 by decide, Int.ediv_one]; omega
    rw [e]; omega
  · simp only [h, if_false]; omega
theorem rev_applied {sl : Addr} {n : Nat} {t : Tok} {Q : Int × Int × Nat → Shared → Prop} (hs : s.heap.IsSliceOf sl .none .none (.int (-1) t)) (h : Q ((n : Int) - 1, -1, n) s) :
    wpAny (model prog w) A (Builtin.Slice.sliceApplied (.ref sl) (pure (n : Int))) Q E s := by
  obtain ⟨os, hos, hcs, hds⟩ := id hs
  unfold Builtin.Slice.sliceApplied
  unfold Builtin.Slice.sliceFields
  refine wpAny_bind ?_
  refine wpAny_bind (wpAny_field hos hds (x := .none) rfl ?_)
  refine wpAny_bind (wpAny_field hos hds (x := .none) rfl ?_)
  refine wpAny_bind (wpAny_field hos hds (x := .int (-1) t) rfl (wpAny_pure ?_))
  refine wpAny_bind (slicePart_int ?_)
  show wpAny _ _ (if ((-1 : Int) == 0) = true then _ else _) _ _ s
  rw [if_neg (by decide)]
  refine wpAny_bind (slicePart_none (wpAny_bind (slicePart_none (wpAny_bind (wpAny_pure ?_)))))
  show wpAny _ _ (pure (((n : Int) - 1), (-1 : Int), Builtin.Slice.slicePlaces ((n : Int) - 1) (-1) (-1))) _ _ s
  rw [rev_places]
  exact wpAny_pure h
theorem rev_pick (xs : Array Value) : ((List.range xs.size).filterMap fun (k : Nat) => xs[(((xs.size : Int) - 1) + (k : Int) * (-1)).toNat]?).toArray = xs.toList.reverse.toArray := by
  have e : (fun (k : Nat) => xs[(((xs.size : Int) - 1) + (k : Int) * (-1)).toNat]?) = (xs[·]?) ∘ fun k => xs.size - 1 - k := by
    funext k
    have : (((xs.size : Int) - 1) + (k : Int) * (-1)).toNat = xs.size - 1 - k := by omega
    rw [this]; rfl
  rw [e, ← List.filterMap_map, PySem.W.krv_range, List.filterMap_reverse, PySem.W.krv_all]
theorem getItem_rev {t sl : Addr} {items : Array Value} {tk : Tok} {Q : Value → Shared → Prop} (ht : IsTup s.heap t items) (hs : s.heap.IsSliceOf sl .none .none (.int (-1) tk)) (hsz : items.size ≤ sizeLine)
    (h : Q (.ref s.heap.objs.size) { s with heap := s.heap.push { cls := .type "tuple", data := .seq items.toList.reverse.toArray } }) : wpAny (model prog w) A (getItem (.ref t) (.ref sl)) Q E s := by
  obtain ⟨os, hos, hcs, hds⟩ := id hs
  have hT : s.TypeIs (.ref sl) "slice" := ⟨os, hos, hcs⟩
  unfold getItem
  try with_reducible refine wpAny_holding ?_
  first | refine wpAny_bind (wpAny_pure ?_) | skip
  refine wpAny_bind (wpAny_sequenceKey ht.typeIs (by decide) ?_)
  refine wpAny_bind (wpAny_callSpecial?_slot (name := Str.ofString "__getitem__") ht.typeIs slot_tuple_getitem (wpAny_call_entry slot_tuple_getitem ht.typeIs entry_tuple_getitem ?_ (args_tuple_getitem _ _)))
  show wpAny _ _ (Builtin.Tuple.tupleItemsOf (.ref t) >>= _) _ _ s
  refine wpAny_bind (tupleItemsOf_ ht (wpAny_bind (wpAny_typeOf hT ?_)))
  rw [if_pos (by decide)]
  refine wpAny_bind (rev_applied hs ?_)
  have hno : ¬ ((((items.size : Int) - 1) == 0 && (-1 : Int) == 1 && items.size == items.size) = true) := by
    intro q
    rw [show ((-1 : Int) == 1) = false from rfl, Bool.and_false, Bool.false_and] at q
    cases q
  show wpAny _ _ (if (((items.size : Int) - 1) == 0 && (-1 : Int) == 1 && items.size == items.size) = true then _ else _) _ _ s
  rw [if_neg hno, rev_pick]
  have hz : sizeOk (.seq items.toList.reverse.toArray) := by
    show items.toList.reverse.toArray.size ≤ sizeLine
    simpa using hsz
  first
    | exact wpAny_bind (m := Builtin.Tuple.tupleExact _) (wpAny_newObj_type (wpAny_pure ⟨_, rfl, wpAny_pure h⟩) hz)
    | exact wpAny_bind (m := Builtin.Tuple.tupleExact _) (wpAny_newObj_type (wpAny_bind (wpAny_pure (wpAny_pure ⟨_, rfl, wpAny_pure h⟩))) hz)
    | exact wpAny_bind (wpAny_bind (m := Builtin.Tuple.tupleExact _) (wpAny_newObj_type (wpAny_pure (wpAny_pure ⟨_, rfl, wpAny_pure h⟩)) hz))
    | exact wpAny_bind (wpAny_bind (m := Builtin.Tuple.tupleExact _) (wpAny_newObj_type (wpAny_pure ⟨_, rfl, wpAny_pure h⟩) hz))
end
section
variable {X : Cx}
/-- x[::-1] -/
def tRevA (K : PySem.W.Frag) (te : TE) : TE := fun σ H Q => te σ H fun x H1 => ∃ a xs, x = .ref a ∧ ((SqL K H1 a xs ∧ ∀ p, H1 p = none → Q (.ref p) (upd H1 p (.lst xs.reverse))) ∨ (SqT K H1 a xs ∧ ∀ p, H1 p = none → Q (.ref p) (upd H1 p (.tup xs.reverse))))
theorem pe_revA {e : Expr} {te : TE} {kk : Nat} {p1 p2 p3 pos : Pos} (he : PE X e te) : PE X (.Subscript e (.Slice none none (some (.UnaryOp .USub (.Constant (.int 1) kk p1) p2)) p3) pos) (tRevA X.K te) := by
  refine ⟨fun pins s σ H Q I h => Subscript_ (thn (he.run pins s σ H _ I h) ?_)⟩
  rintro v s1 ⟨x, H1, I1, r1, a, xs, rfl, hx⟩
  cases r1
  have step : PO X (some (.UnaryOp .USub (.Constant (.int 1) kk p1) p2)) (tPart (tUn (rU fun i => .int (-i)) (tC (.int 1)))) := po_some (pe_un un_neg pe_int)
  refine wpAny_Slice (thn (po_none.run pins s1 σ H1 (fun o H2 => o = none ∧ H2 = H1) I1 ⟨rfl, rfl⟩) ?_)
  rintro vl s2 ⟨_, _, I2, pl, rfl, rfl⟩
  refine thn (po_none.run pins s2 σ _ (fun o H3 => o = none ∧ H3 = _) I2 ⟨rfl, rfl⟩) ?_
  rintro vu s3 ⟨_, _, I3, pu, rfl, rfl⟩
  refine thn (step.run pins s3 σ _ (fun o H4 => o = some (-1) ∧ H4 = _) I3 ⟨1, rfl, -1, rfl, rfl, rfl⟩) ?_
  rintro vs s4 ⟨_, H4, I4, ps, rfl, rfl⟩
  have I5 : Inv X pins σ H4 { s4 with heap := s4.heap.push { cls := .type "slice", data := .fields #[vl, vu, vs] } } := I4.kept (t' := s4.toks) fun b ob q => Heap.get?_push_of_some _ q
  show wpAny (model X.prog X.w) X.A (subscriptTail e (.Slice none none (some (.UnaryOp .USub (.Constant (.int 1) kk p1) p2)) p3) (.ref a) (.ref s4.heap.objs.size)) (EP X pins σ Q) X.xe { s4 with heap := s4.heap.push { cls := .type "slice", data := .fields #[vl, vu, vs] } }
  have hsl := Heap.IsSliceOf.new s4.heap vl vu vs
  rcases hx with ⟨hx, q⟩ | ⟨hx, q⟩
  · obtain ⟨its, r, ht, hz⟩ := I5.list hx
    refine tail_any (ops := [.ref a, .ref s4.heap.objs.size]) ht.isList.typeIs PySem.slot_list_getitem.lookup (wpAny_getItem_list_slice ht.isList hsl pl pu ps (by decide) ?_ ?_) (by with_unfolding_all rfl)
    · rw [PySem.W.krv_pick]
      refine ⟨.ref _, _, I5.laid (t' := s4.toks) (o := .lst xs.reverse) (fun b ob q => Heap.get?_push_of_some _ q) (Nat.le_refl _) ?_, rfl, q _ (I5.hok.fresh (Nat.le_refl _))⟩
      exact ⟨by rw [List.length_reverse]; exact hz, _, 0, r.reverse, Heap.get?_push_size _ rfl⟩
    · rw [List.size_toArray, ← r.length]; exact hz
  · obtain ⟨its, r, ht, hz⟩ := I5.tuple hx
    cases pl
    cases pu
    cases ps
    refine tail_any (ops := [.ref a, .ref s4.heap.objs.size]) ht.typeIs slot_tuple_getitem.lookup (getItem_rev ht hsl ?_ ?_) (by with_unfolding_all rfl)
    · rw [List.size_toArray, ← r.length]; exact hz
    · refine ⟨.ref _, _, I5.laid (t' := s4.toks) (o := .tup xs.reverse) (fun b ob q => Heap.get?_push_of_some _ q) (Nat.le_refl _) ?_, rfl, q _ (I5.hok.fresh (Nat.le_refl _))⟩
      refine ⟨by rw [List.length_reverse]; exact hz, its.reverse, r.reverse, ⟨_, Heap.get?_push_size _ rfl, rfl, 0, ?_⟩⟩
      simp
end
end Ev

set_option Elab.async false
set_option linter.all false
set_option maxRecDepth 100000
set_option maxHeartbeats 4000000
/-! EvT: enumerate over a tuple. -/
namespace Ev
variable [TabsC]
open PySem L2 PySem.Spec
open AutoSeq1 (wpAny_loadPart')
open PyProof.Rows (Call_ boot_enumerate)

section
variable {prog : Program} {w : World} {A : Around} {E : Value → Shared → Prop} {s : Shared}
theorem tupIter_next {it t : Addr} {i : Nat} {items : Array Value} {x : Value} {Q : Value → Shared → Prop} (hit : s.heap.IsTupleIter it t i) (ht : s.heap.IsTuple t items) (hx : items[i]? = some x)
    (hQ : ∀ h', h'.IsTupleIter it t (i + 1) → Heap.SameBut it s.heap h' → Q x { s with heap := h' }) : wpAny (model prog w) A (Builtin.SmallTypes.nextOf (.ref it)) Q E s := by
  obtain ⟨o, ho, hc, hd⟩ := id hit
  obtain ⟨ot, hot, _, n, hdt⟩ := ht
  unfold Builtin.SmallTypes.nextOf
  refine wpAny_bind (wpAny_callSpecial?_slot (name := Str.ofString "__next__") hit.typeIs F.slot_tuple_iterator_next (wpAny_call_entry F.slot_tuple_iterator_next hit.typeIs F.entry_tuple_iterator_next ?_ (F.args_tuple_iterator_next_1 _)))
  refine (show wpAny (model prog w) _ (field (.ref it) 0 >>= _) _ _ s from wpAny_bind (wpAny_field ho hd (x := .ref t) rfl ?_))
  refine (show wpAny (model prog w) _ (if (Value.ref t == Value.none) = true then _ else _) _ _ s from ?_)
  rw [if_neg (show ¬ (Value.ref t == Value.none) = true from Bool.false_ne_true)]
  refine (show wpAny (model prog w) _ (field (.ref it) 1 >>= _) _ _ s from wpAny_bind (wpAny_field ho hd (x := .int i 0) rfl ?_))
  refine (show wpAny (model prog w) _ (seqItems? (.ref t) >>= _) _ _ s from wpAny_bind (wpAny_seqItems hot hdt ?_))
  simp only [hx, Int.toNat_natCast]
  refine wpAny_bind (wpAny_setField ho hd (by simp) (wpAny_pure ⟨x, rfl, wpAny_pure (hQ _ ⟨_, Heap.get?_update_self _ ho (Obj.isFreed_of_fields (Obj.data_mapFields hd _)), (Obj.cls_mapFields ..).trans hc, ?_⟩ (Heap.SameBut.update ..))⟩))
  rw [Obj.data_mapFields hd]
  simp [rawInt]
theorem tupIter_end {it t : Addr} {i : Nat} {items : Array Value} {Q : Value → Shared → Prop} (hh : A.handled = none) (hit : s.heap.IsTupleIter it t i) (ht : s.heap.IsTuple t items) (hx : items[i]? = none)
    (hE : ∀ h' e, Heap.ExtBut it s.heap h' → (∃ o, h'.get? e = some o ∧ o.cls = .type "StopIteration") → E (.ref e) { s with heap := h' }) : wpAny (model prog w) A (Builtin.SmallTypes.nextOf (.ref it)) Q E s := by
  obtain ⟨o, ho, hc, hd⟩ := id hit
  obtain ⟨ot, hot, _, n, hdt⟩ := ht
  unfold Builtin.SmallTypes.nextOf
  refine wpAny_bind (wpAny_callSpecial?_slot (name := Str.ofString "__next__") hit.typeIs F.slot_tuple_iterator_next (wpAny_call_entry F.slot_tuple_iterator_next hit.typeIs F.entry_tuple_iterator_next ?_ (F.args_tuple_iterator_next_1 _)))
  refine (show wpAny (model prog w) _ (field (.ref it) 0 >>= _) _ _ s from wpAny_bind (wpAny_field ho hd (x := .ref t) rfl ?_))
  refine (show wpAny (model prog w) _ (if (Value.ref t == Value.none) = true then _ else _) _ _ s from ?_)
  rw [if_neg (show ¬ (Value.ref t == Value.none) = true from Bool.false_ne_true)]
  refine (show wpAny (model prog w) _ (field (.ref it) 1 >>= _) _ _ s from wpAny_bind (wpAny_field ho hd (x := .int i 0) rfl ?_))
  refine (show wpAny (model prog w) _ (seqItems? (.ref t) >>= _) _ _ s from wpAny_bind (wpAny_seqItems hot hdt ?_))
  simp only [hx, Int.toNat_natCast]
  refine wpAny_bind (wpAny_rule (wpAny_bind (wpAny_setField ho hd (by simp) ?_)))
  refine (show wpAny (model prog w) _ (newExc (.type "StopIteration") [] >>= _) _ _ _ from wpAny_bind ?_)
  simp only [newTuple, newExc]
  refine wpAny_bind (wpAny_newObj_type (wpAny_bind (m := firstArgMember _ _) (wpAny_of_eq (a := Value.none) (by first | rfl | (simp only [firstArgMember]; rfl)) (wpAny_newObj_type ?_ (by size_fits)))) (by size_fits))
  simp only [raiseNew]
  refine wpAny_bind (wpAny_handled ?_)
  first | rw [hh] | rw [show A.in1.handled = none from hh]
  exact wpAny_bind (wpAny_pure (wpAny_throw (hE _ _ (((Heap.SameBut.update ..).extBut.push _).push _) ⟨_, Heap.get?_push_size _ rfl, rfl⟩)))
end
theorem drawsT {prog : Program} {w : World} {A : Around} (hh : A.handled = none) (it t : Addr) (hne : t ≠ it) (items : Array Value) :
    Draws prog w A it [it, t] items.size (fun i v => items[i]? = some v) (fun i h => h.IsTupleIter it t i ∧ h.IsTuple t items) where
  live := fun _ _ st => let ⟨o, ho, _⟩ := st.1; ⟨o, ho⟩
  frame := fun i h h' st hk => by
    obtain ⟨⟨o, ho, r⟩, ⟨o2, ho2, r2⟩⟩ := st
    exact ⟨⟨o, hk it (by simp) o ho, r⟩, ⟨o2, hk t (by simp) o2 ho2, r2⟩⟩
  item := fun i s Q E hi st hQ => tupIter_next st.1 st.2 (x := items[i]) (by simp [hi]) fun h' hit' hs' => by
    obtain ⟨o2, ho2, r2⟩ := st.2
    exact hQ _ h' s.toks (by simp [hi]) ⟨hit', ⟨o2, (hs'.2 t hne).trans ho2, r2⟩⟩ hs'
  done := fun s Q E st hE => tupIter_end hh st.1 st.2 (by simp) hE
/-- as Ite, the tuple at a -/
def IteT (K : PySem.W.Frag) (a : Addr) : It where
  go i H := ∃ (xs : List V) (x : V), SqT K H a xs ∧ xs[i]? = some x
  yld i H v H' := ∃ T x, v = .ref T ∧ H T = none ∧ H' = upd H T (.tup [.int (i : Nat), x]) ∧ ∀ xs, SqT K H a xs → xs[i]? = some x
  stop i H := ∃ xs : List V, SqT K H a xs ∧ xs.length = i
theorem turn_enT {P : Program} {w : World} {K : PySem.W.Frag} {elts : List Expr} {kk : Nat} {tpos : Pos} (a e it : Addr) (hea : e ≠ a) (hai : a ≠ it) :
    Turn P w K (.Tuple elts kk tpos) (IteT K a) [e, it] e (fun i h => (∃ old, IsEnum h e it ((i : Nat) : Int) old) ∧ h.IsTupleIter it a i ∧ e ≠ it) where
  mem := by simp
  obj := by
    rintro i h ⟨⟨old, he⟩, ⟨o, ho, hc, hd⟩, _⟩ b hb
    simp only [List.mem_cons, List.not_mem_nil, or_false] at hb
    rcases hb with z | z <;> subst z
    · exact ⟨_, he, fun v q => nomatch q⟩
    · exact ⟨o, ho, fun v q => by rw [hd] at q; cases q⟩
  keep := by
    rintro i h h' ⟨⟨old, he⟩, ⟨o, ho, r⟩, hne⟩ k
    exact ⟨⟨old, k e (by simp) _ he⟩, ⟨o, k it (by simp) o ho, r⟩, hne⟩
  item := by
    rintro X rfl rfl rfl hc i pins s σ H E I hf ⟨⟨old, he⟩, hit, hne⟩ ⟨xs, x, hq, hx⟩
    obtain ⟨its, rv, p, hz⟩ := I.tuple hq
    obtain ⟨u, hu, ru⟩ := rv.get hx
    have hlt : i < its.toArray.size := by
      rw [List.size_toArray]; exact (List.getElem?_eq_some_iff.mp hu).1
    have hd := drawsT (prog := X.prog) (w := X.w) (A := X.A.in1) (I.ok.hd hc) it a hai its.toArray
    have hel : e < s.heap.objs.size := Heap.lt_size he
    have hil : it < s.heap.objs.size := by obtain ⟨_, q, _⟩ := hit; exact Heap.lt_size q
    refine wpAny_pyNext_enum_itemD hd he ⟨hit, p⟩ hlt hne (by simp [hne, hea]) fun y h' tk hy ho hst hT hsz hk => ?_
    have ey : y = u := by
      have : its.toArray[i]? = some u := by simpa using hu
      rw [this] at hy; exact (Option.some.inj hy).symm
    subst ey
    refine ⟨_, rfl, wpAny_letOwnedTupleGo_enum (s := { s with heap := h', toks := tk + 1 }) ho fun h'' he' sb => ?_⟩
    have hT2 : h''.get? s.heap.objs.size = some { cls := .type "tuple", data := .seq #[.int i tk, y] } := (sb.2 _ (Nat.ne_of_gt hel)).trans hT
    have new : ObjOk X.prog X.w (upd H s.heap.objs.size (.tup [.int (i : Nat), x])) h'' s.heap.objs.size (.tup [.int (i : Nat), x]) :=
      ⟨by show 2 ≤ sizeLine; decide, [.int i tk, y], .cons ⟨_, rfl⟩ (.cons ru .nil), ⟨_, hT2, rfl, _, rfl⟩⟩
    have I1 : Inv X pins σ (upd H s.heap.objs.size (.tup [.int (i : Nat), x])) { s with heap := h'', toks := tk + 1 } :=
      I.turnedNew (ch := [e, it]) (fun b ob hb q => (sb.2 b (fun z => hb (by simp [z]))).trans (hk b ob (fun z => hb (by simp [z])) (fun z => hb (by simp [z])) q)) hf (Nat.le_refl _) new
    refine ⟨.ref s.heap.objs.size, _, I1, rfl, ⟨_, x, rfl, I.hok.fresh (Nat.le_refl _), rfl, fun ys hy => by rw [I.tuple_inj hy hq]; exact hx⟩, ⟨⟨y, ?_⟩, ?_, hne⟩, fun b hb => ?_⟩
    · rw [show ((i + 1 : Nat) : Int) = (i : Int) + 1 by omega]; exact he'
    · obtain ⟨o, ho2, r⟩ := hst.1
      exact ⟨o, (sb.2 it (Ne.symm hne)).trans ho2, r⟩
    · simp only [List.mem_cons, List.not_mem_nil, or_false] at hb
      have hlt : b < s.heap.objs.size := by rcases hb with z | z <;> subst z <;> assumption
      rw [upd_ne (Nat.ne_of_lt hlt)]
      exact (hf b (by simpa using hb)).1
  done := by
    rintro X rfl rfl rfl hc i pins s σ H E I hf ⟨⟨old, he⟩, hit, hne⟩ ⟨xs, hq, hx⟩
    obtain ⟨its, rv, p, hz⟩ := I.tuple hq
    obtain ⟨f0, f1, f2, f3, f4, f5⟩ := hf it (by simp)
    have hsz : its.toArray.size = i := by rw [List.size_toArray, ← rv.length]; exact hx
    have hd := drawsT (prog := X.prog) (w := X.w) (A := X.A.in1) (I.ok.hd hc) it a hai its.toArray
    refine wpAny_pyNext_enum_endD hd he ?_ fun h' eb => ⟨rfl, I.turned (t' := s.toks) (fun b o hb q => eb b o hb q) f0 f1 f3 f4 f5⟩
    rw [hsz]
    exact ⟨hit, p⟩
  self := fun A i s Q E st h => let ⟨⟨_, he⟩, _⟩ := st; wpAny_pyIter_enum he h
theorem meets_enumT (t : Addr) (items : Array Value) (n : Nat) (dct : Option Addr) (sl : Array (Option Value)) :
    Meets (Builtin.«enumerate.__new__» ⟨[.type "enumerate", .ref t], []⟩) (fun _ R s => s.heap.get? t = some { cls := .type "tuple", dict := dct, data := .seq items n, slots := sl } ∧
      R (.ok (.ret (.ref (s.heap.push { cls := .type "tuple_iterator", data := .fields #[.ref t, .int 0 0] }).objs.size)))
        { s with heap := (s.heap.push { cls := .type "tuple_iterator", data := .fields #[.ref t, .int 0 0] }).push { cls := .type "enumerate", data := .fields #[.none, .bool false, .ref s.heap.objs.size, rawInt 0, .none, .none] } }) :=
  .of_wp fun prog w A R s h => by
    obtain ⟨hp, g, d, tk, os⟩ := s; obtain ⟨ht, h⟩ := h
    have sub := sub_enumerate
    have isT : Heap.IsTuple (Shared.heap ⟨hp, g, d, tk, os⟩) t items := ⟨_, ht, rfl, n, rfl⟩
    wp_walk using wpAny_loadPart' ht
    refine wpAny_stack_any fun st => wpAny_pure ?_
    split
    · rename_i c _ _ _ _ _
      cases (c == Value.type "enumerate") <;> (wp_walk using wpAny_loadPart' ht, wpAny_pyIter_tuple isT; exact ⟨_, rfl, h⟩)
    · wp_walk using wpAny_loadPart' ht, wpAny_pyIter_tuple isT
      exact ⟨_, rfl, h⟩
section
variable {prog : Program} {w : World} {A : Around} {E : Value → Shared → Prop} {s : Shared}
theorem call_enumT {t : Addr} {items : Array Value} {Q : Value → Shared → Prop} (ht : s.heap.IsTuple t items)
    (h : ∀ h', IsEnum h' (s.heap.objs.size + 1) s.heap.objs.size 0 .none → h'.IsTupleIter s.heap.objs.size t 0 → (∀ b o, s.heap.get? b = some o → h'.get? b = some o) → Q (.ref (s.heap.objs.size + 1)) { s with heap := h' }) :
    wpAny (model prog w) A (call (.type "enumerate") [.ref t]) Q E s := by
  obtain ⟨⟨c, dct, dt, sl⟩, hl, hc, n, hd⟩ := ht
  replace hc : c = .type "tuple" := hc
  replace hd : dt = .seq items n := hd
  subst hc hd
  refine callType_new F.called_enumerate (by decide) (F.typeCall_enumerate_1 _) (F.newCall_enumerate_1 _) (fun obj => F.args_object_init_2 obj _) F.entry_enumerate_new (meets_enumT t items n dct sl) ⟨hl, ?_⟩
  have hz : (s.heap.push { cls := .type "tuple_iterator", data := .fields #[.ref t, .int 0 0] }).objs.size = s.heap.objs.size + 1 := Heap.size_push ..
  show _ ∧ _
  rw [hz]
  have he := Heap.get?_push_size (s.heap.push { cls := .type "tuple_iterator", data := .fields #[.ref t, .int 0 0] }) (o := { cls := .type "enumerate", data := .fields #[.none, .bool false, .ref s.heap.objs.size, rawInt 0, .none, .none] }) rfl
  rw [hz] at he
  exact ⟨⟨_, he, rfl⟩, h _ he ⟨_, Heap.get?_push_of_some _ (Heap.get?_push_size _ rfl), rfl, rfl⟩ fun b o x => Heap.get?_push_of_some _ (Heap.get?_push_of_some _ x)⟩
end
def iEnA (K : PySem.W.Frag) (ta : TA) : TI := fun σ H RI => ta σ H fun vs H1 => ∃ a, vs = [.ref a] ∧ ((∃ xs, SqL K H1 a xs ∧ RI (Ite K a) H1) ∨ (∃ xs, SqT K H1 a xs ∧ RI (IteT K a) H1))
theorem pi_enA {X : Cx} {e : Expr} {ta : TA} {p pos tpos : Pos} {elts : List Expr} {kk : Nat} (hg : Gl X "enumerate") (hm : X.mg "enumerate" = none) (ha : PA X [e] ta) (hs : starEach [e] X.env = [(false, eval e X.env)]) :
    PI X (.Tuple elts kk tpos) (.Call (.Name "enumerate" p) [e] [] pos) (iEnA X.K ta) := by
  refine ⟨fun pins s σ H R I h => Call_ (ld_blt I hg hm boot_enumerate (PyProof.Rows.callWith_type1 (thn (ha.run pos pins s σ H _ I h) ?_) hs rfl))⟩
  rintro us s1 ⟨vs, H1, I1, r1, a, rfl, hx⟩
  cases r1 with
  | cons r rr =>
    cases rr
    cases r
    have low : ∀ b ∈ ([s1.heap.objs.size + 1, s1.heap.objs.size] : List Addr), FpOk X pins H1 b := fun b hb => by
      have hle : s1.heap.objs.size ≤ b := by
        simp only [List.mem_cons, List.not_mem_nil, or_false] at hb
        rcases hb with z | z <;> subst z <;> omega
      exact I1.fpOk hle (I1.hok.fresh hle)
    rcases hx with ⟨xs, hq, q⟩ | ⟨xs, hq, q⟩
    · obtain ⟨its, rv, p', hz⟩ := I1.list hq
      exact call_enumerate_list p'.isList fun h' he hit hsz hk => wpAny_pyIter_enum he ⟨_, _, _, _, H1, rfl, I1.kept (t' := s1.toks) hk, turn_enum a (s1.heap.objs.size + 1) s1.heap.objs.size, ⟨⟨.none, he⟩, hit, Nat.succ_ne_self _⟩, low, q⟩
    · obtain ⟨its, rv, p', hz⟩ := I1.tuple hq
      have hlt : a < s1.heap.objs.size := by obtain ⟨o, ho, _⟩ := p'; exact Heap.lt_size ho
      exact call_enumT (show s1.heap.IsTuple a its.toArray from p') fun h' he hit hk => wpAny_pyIter_enum he ⟨_, _, _, _, H1, rfl, I1.kept (t' := s1.toks) hk, turn_enT a (s1.heap.objs.size + 1) s1.heap.objs.size (Nat.ne_of_gt (Nat.lt_succ_of_lt hlt)) (Nat.ne_of_lt hlt), ⟨⟨.none, he⟩, hit, Nat.succ_ne_self _⟩, low, q⟩
end Ev

set_option Elab.async false
set_option linter.all false
set_option maxRecDepth 100000
set_option maxHeartbeats 2000000
/-! EvB: a op b, where what is owned within a list may have to be shared. -/
namespace Ev
variable [TabsC]
open PySem L2
section
variable {M : Gb} {cl : Cl} {G : Cn} {k : Nat} {W : WL} {X : Cx}
theorem sE_bin2 {a b : Expr} {op : Operator} {pos : Pos} {fa fb : En → R (RV × En)} (ha : PE X a (tE X.K W.me W fa)) (hb : PE X b (tE X.K W.me W fb)) (ga : ∀ e v e', fa e = .ok (v, e') → flat v = true) (gb : ∀ e v e', fb e = .ok (v, e') → flat v = true) :
    PE X (.BinOp a op b pos) (tE X.K W.me W fun e => (fa e).bind fun (va, e1) => (fb e1).bind fun (vb, e2) => match content e2 va, content e2 vb with
      | some x, some y => (match binop op x y with
        | some d => .ok (.val d, e2)
        | none => (takes e2 [va, vb]).bind fun (ds, e3) => match ds with
          | [x', y'] => (ofO (binop op x' y')).bind fun d => .ok (.val d, e3)
          | _ => .stuck)
      | _, _ => .stuck) := by
  refine ⟨fun pins s σ H Q I ⟨e, F, A, S, post⟩ => wpAny_BinOp ?_⟩
  refine seqE (T := []) ha I S (Step.refl fun _ z => by simpa using z) post fun va e1 h1 v u s1 H1 F1 A1 as1 I1 r1 st1 st01 S1 res1 post => ?_
  refine seqE (T := as1) hb I1 S1 (by simpa using st01) post fun vb e2 h2 y w s2 H2 F2 A2 as2 I2 r2 st2 st02 S2 res2 post => ?_
  obtain ⟨res1', dj⟩ := res1.past (ga _ _ _ h1) st2
  cases ca : content e2 va with
  | none => simp only [ca] at post; exact post.elim
  | some x =>
    cases cb : content e2 vb with
    | none => simp only [ca, cb] at post; exact post.elim
    | some z =>
      simp only [ca, cb] at post
      obtain ⟨a1, p1, _⟩ := ResV.content S2 res1' ca
      obtain ⟨a2, p2, _⟩ := ResV.content S2 res2 cb
      cases hd : binop op x z with
      | some d =>
        rw [hd] at post
        exact binop_ok I2 r1 r2 S2.sub p1 p2 hd (OkE.fin (T := as1 ++ as2) (by simpa [List.append_assoc] using st02) S2 post)
      | none =>
        simp only [hd] at post
        have rvs : ResVs X.K W.me F2 H2 σ A2 [v, y] [va, vb] (as1 ++ as2) := by
          simp only [ResVs]
          exact ⟨v, [y], as1, as2, rfl, rfl, ga _ _ _ h1, res1', ⟨y, [], as2, [], rfl, by simp, gb _ _ _ h2, res2, ⟨rfl, rfl⟩, fun _ _ => by simp⟩, dj⟩
        cases ht : takes e2 [va, vb] with
        | err _ _ _ => exact (takes_noerr ht).elim
        | stuck => rw [ht] at post; exact post.elim
        | ok p =>
          obtain ⟨ds, e3⟩ := p
          rw [ht] at post
          obtain ⟨F3, A3, as3, st3, S3, rel, nd3, dj3, _, _, _⟩ := takes_ok S2 rvs ht
          match ds, post, rel with
          | [], post, rel => exact post.elim
          | [_], post, rel => exact post.elim
          | _ :: _ :: _ :: _, post, rel => exact post.elim
          | [x', y'], post, rel =>
            have post : PostG X.K W σ A H F ((ofO (binop op x' y')).bind fun d => .ok (.val d, e3)) (OkE X.K W.me σ A H F Q) := post
            simp only [ReL] at rel
            obtain ⟨v1, r', b1, b2, ev, eb, q1, v2, r'', b3, b4, ev2, eb2, q2, _, _⟩ := rel
            simp only [List.cons.injEq] at ev
            obtain ⟨rfl, rfl⟩ := ev
            simp only [List.cons.injEq] at ev2
            obtain ⟨rfl, rfl⟩ := ev2
            cases hd2 : binop op x' y' with
            | none => rw [hd2] at post; exact post.elim
            | some d =>
              rw [hd2] at post
              have st : Step A H F (as3 ++ A3) H2 F3 := (show Step A H F ((as1 ++ as2) ++ A2) H2 F2 by simpa [List.append_assoc] using st02).trans st3
              exact binop_ok I2 r1 r2 S3.sub q1 q2 hd2 (OkE.fin (T := as3) st S3 post)
end
end Ev

set_option Elab.async false
set_option linter.all false
set_option maxRecDepth 100000
set_option maxHeartbeats 2000000
/-! Ev18: enumerate, the empty dict, x[::-1]. -/
namespace Ev
variable [TabsC]
open PySem L2

section
variable {M : Gb} {cl : Cl} {G : Cn} {k : Nat} {W : WL} {X : Cx} {tg : Expr}
theorem itok_enT {K : PySem.W.Frag} {mg : Me} {F : Hp} {a : Addr} {ds : List D} {vs : List V} (hs : SqT K F a vs) (r : ReL K mg F F ds vs []) : ItOk K mg F (IteT K a) (enD 0 ds) where
  go := fun i H2 F2 l1 l2 hi => by
    rw [enD_length] at hi
    obtain ⟨v, hv, _⟩ := rel_at r (List.getElem?_eq_getElem hi)
    exact ⟨vs, v, (l1.trans l2).seqT hs, hv⟩
  yld := fun i H2 F2 x H3 d l1 l2 hd ⟨T, y, ex, hT, eH, hy⟩ => by
    obtain ⟨c, hc, ed⟩ := enD_at hd
    obtain ⟨v, hv, rv⟩ := rel_at r hc
    have := hy vs ((l1.trans l2).seqT hs)
    rw [hv] at this
    cases this
    subst eH; subst ex; subst ed
    have hf : F2 T = none := by
      cases q : F2 T with
      | none => rfl
      | some o => rw [l2 T o q] at hT; cases hT
    refine ⟨upd F2 T (.tup [.int (i : Nat), y]), Step.newF hT hf, fun b o q => ?_, ?_⟩
    · by_cases z : b = T
      · subst z; rw [upd_same] at q ⊢; exact q
      · rw [upd_ne z] at q ⊢; exact l2 b o q
    · have l3 : Le F (upd F2 T (.tup [.int (i : Nat), y])) := fun b o q => by
        have q2 := l1 b o q
        rw [upd_ne (ne_of_none q2 hf)]; exact q2
      simp only [Rep, ReL]
      refine ⟨trivial, T, _, rfl, .inl (.inl upd_same), V.int (i : Nat), [y], [], [], rfl, rfl, ⟨by simp, rfl⟩, y, [], [], [], rfl, rfl, rv.later l3, rfl, rfl⟩
  stop := fun H2 F2 l1 l2 => ⟨vs, (l1.trans l2).seqT hs, by rw [enD_length, r.length]⟩
theorem sEn {a : Expr} {p pos : Pos} {f : En → R (RV × En)} (g : Good M cl G k W X) (ht : isTup tg = true) (hn : noStar [a] = true) (hg : G.glob "enumerate" = true) (hf : M.free.contains "enumerate" = true) (ha : PE X a (tE X.K W.me W f)) :
    PI X tg (.Call (.Name "enumerate" p) [a] [] pos) (tI X.K W.me W fun e => (f e).bind fun (v, e1) => (takeF e1 v).bind fun (d, e2) => (match d with | .tup ds => .ok (enD 0 ds, e2) | .lst _ ds => .ok (enD 0 ds, e2) | _ => .stuck)) := by
  obtain ⟨elts, kk, tpos, et⟩ : ∃ elts kk tpos, tg = .Tuple elts kk tpos := by
    cases tg <;> first | exact ⟨_, _, _, rfl⟩ | (simp [isTup] at ht)
  subst et
  obtain ⟨s1, _⟩ := star_cons (env := X.env) hn
  refine ⟨fun pins s σ H RI I ⟨e, F, A, S, post⟩ => (pi_enA (g.glob hg) (g.mod.free _ hf) (pa_cons ha pa_nil s1) s1).run pins s σ H RI I ?_⟩
  refine tE_of (T := []) S nilA post fun rv e1 h1 v H1 F1 A1 as1 st1 st01 S1 res1 post => ?_
  cases ht : takeF e1 rv with
  | err _ _ _ => exact (takeF_noerr ht).elim
  | stuck => simp only [ht, R.bind] at post; exact post.elim
  | ok y =>
    obtain ⟨d, e2⟩ := y
    simp only [ht, R.bind] at post
    obtain ⟨F2, A2, s2, S2, r2⟩ := takeF_ok S1 res1 ht
    have st2 : Step A H F A2 H1 F2 := (show Step A H F (as1 ++ A1) H1 F1 by simpa using st01).trans s2
    cases d <;> first | exact post.elim | skip
    · have post : OkI X.K W.me σ A H F RI _ := post
      obtain ⟨p, vs, ev, hs, hr⟩ := rep_tup r2
      subst ev
      exact ⟨p, rfl, .inr ⟨vs, S2.sub.seqT hs, post _ H1 F2 A2 st2 S2 (itok_enT hs (ReL.mono (Le.refl _) _ _ _ (fun a z => absurd z (by simp)) hr))⟩⟩
    · have post : OkI X.K W.me σ A H F RI _ := post
      obtain ⟨p, vs, ev, hs, hr⟩ := rep_lstF r2
      subst ev
      exact ⟨p, rfl, .inl ⟨vs, S2.sub.seqL hs, post _ H1 F2 A2 st2 S2 (itok_enum hs hr)⟩⟩
theorem zipD_at : ∀ {xs ys : List D} {i : Nat} {d : D}, (zipD xs ys)[i]? = some d → ∃ x y, xs[i]? = some x ∧ ys[i]? = some y ∧ d = .tup [x, y]
  | [], ys, i, d, h => by simp [zipD] at h
  | x :: xs, [], i, d, h => by simp [zipD] at h
  | x :: xs, y :: ys, 0, d, h => by simp [zipD] at h; exact ⟨x, y, rfl, rfl, h.symm⟩
  | x :: xs, y :: ys, i + 1, d, h => by
    simp only [zipD, List.getElem?_cons_succ] at h
    obtain ⟨a, b, h1, h2, h3⟩ := zipD_at h
    exact ⟨a, b, by simpa using h1, by simpa using h2, h3⟩
theorem zipD_length : ∀ (xs ys : List D), (zipD xs ys).length = min xs.length ys.length
  | [], ys => by simp [zipD]
  | x :: xs, [] => by simp [zipD]
  | x :: xs, y :: ys => by simp only [zipD, List.length_cons, zipD_length xs ys]; omega
theorem zip_pair {K : PySem.W.Frag} {mg : Me} {F F2 H2 : Hp} {T : Addr} {x y : D} {v w : V} (l1 : Le F F2) (l2 : Le F2 H2) (hT : H2 T = none) (rx : Rep K mg F F x v []) (ry : Rep K mg F F y w []) :
    ∃ F3, Step [] H2 F2 [] (upd H2 T (.tup [v, w])) F3 ∧ Le F3 (upd H2 T (.tup [v, w])) ∧ Rep K mg F3 (upd H2 T (.tup [v, w])) (.tup [x, y]) (.ref T) [] := by
  have hf : F2 T = none := by
    cases q : F2 T with
    | none => rfl
    | some o => rw [l2 T o q] at hT; cases hT
  refine ⟨upd F2 T (.tup [v, w]), Step.newF hT hf, fun b o q => ?_, ?_⟩
  · by_cases z : b = T
    · subst z; rw [upd_same] at q ⊢; exact q
    · rw [upd_ne z] at q ⊢; exact l2 b o q
  · have l3 : Le F (upd F2 T (.tup [v, w])) := fun b o q => by
      have q2 := l1 b o q
      rw [upd_ne (ne_of_none q2 hf)]; exact q2
    simp only [Rep, ReL]
    exact ⟨trivial, T, _, rfl, .inl (.inl upd_same), v, [w], [], [], rfl, rfl, rx.later l3, w, [], [], [], rfl, rfl, ry.later l3, rfl, rfl⟩
theorem itok_zipT {K : PySem.W.Frag} {mg : Me} {F : Hp} {a b : Addr} {xs ys : List D} {vs ws : List V} (hs : SqT K F a vs) (ht : SqT K F b ws) (r : ReL K mg F F xs vs []) (r2 : ReL K mg F F ys ws []) : ItOk K mg F (RZ.ItzT K a b) (zipD xs ys) where
  go := fun i H2 F2 l1 l2 hi => by
    obtain ⟨x, y, hx, hy, _⟩ := zipD_at (List.getElem?_eq_getElem hi)
    obtain ⟨v, hv, _⟩ := rel_at r hx
    obtain ⟨w, hw, _⟩ := rel_at r2 hy
    exact ⟨vs, ws, v, w, (l1.trans l2).seqT hs, (l1.trans l2).seqT ht, hv, hw⟩
  yld := fun i H2 F2 x H3 d l1 l2 hd ⟨T, y, z, ex, hT, eH, hy, hz⟩ => by
    obtain ⟨c, e, hc, he, ed⟩ := zipD_at hd
    obtain ⟨v, hv, rv⟩ := rel_at r hc
    obtain ⟨w, hw, rw'⟩ := rel_at r2 he
    have e1 := hy vs ((l1.trans l2).seqT hs)
    have e2 := hz ws ((l1.trans l2).seqT ht)
    rw [hv] at e1; rw [hw] at e2
    cases e1; cases e2
    subst eH; subst ex; subst ed
    exact zip_pair l1 l2 hT rv rw'
  stop := fun H2 F2 l1 l2 => ⟨vs, ws, (l1.trans l2).seqT hs, (l1.trans l2).seqT ht, by rw [zipD_length, ← r.length, ← r2.length]; omega⟩
theorem itok_zipL {K : PySem.W.Frag} {mg : Me} {F : Hp} {a b : Addr} {xs ys : List D} {vs ws : List V} (hs : SqL K F a vs) (ht : SqL K F b ws) (r : ReL K mg F F xs vs []) (r2 : ReL K mg F F ys ws []) : ItOk K mg F (Itz K a b) (zipD xs ys) where
  go := fun i H2 F2 l1 l2 hi => by
    obtain ⟨x, y, hx, hy, _⟩ := zipD_at (List.getElem?_eq_getElem hi)
    obtain ⟨v, hv, _⟩ := rel_at r hx
    obtain ⟨w, hw, _⟩ := rel_at r2 hy
    exact ⟨vs, ws, v, w, (l1.trans l2).seqL hs, (l1.trans l2).seqL ht, hv, hw⟩
  yld := fun i H2 F2 x H3 d l1 l2 hd ⟨T, y, z, ex, hT, eH, hy, hz⟩ => by
    obtain ⟨c, e, hc, he, ed⟩ := zipD_at hd
    obtain ⟨v, hv, rv⟩ := rel_at r hc
    obtain ⟨w, hw, rw'⟩ := rel_at r2 he
    have e1 := hy vs ((l1.trans l2).seqL hs)
    have e2 := hz ws ((l1.trans l2).seqL ht)
    rw [hv] at e1; rw [hw] at e2
    cases e1; cases e2
    subst eH; subst ex; subst ed
    exact zip_pair l1 l2 hT rv rw'
  stop := fun H2 F2 l1 l2 => ⟨vs, ws, (l1.trans l2).seqL hs, (l1.trans l2).seqL ht, by rw [zipD_length, ← r.length, ← r2.length]; omega⟩
/-- zip of two lists, of two tuples -/
theorem sZip {a b : Expr} {p pos : Pos} {f : En → R (List RV × En)} (g : Good M cl G k W X) (ht : isTup tg = true) (hn : noStar [a, b] = true) (hg : G.glob "zip" = true) (hf : M.free.contains "zip" = true) (ha : PA X [a, b] (tA X.K W.me W f)) :
    PI X tg (.Call (.Name "zip" p) [a, b] [] pos) (tI X.K W.me W fun e => (f e).bind fun (vs, e1) => (takes e1 vs).bind fun (ds, e2) => (match frzL ds with
          | [.tup xs, .tup ys] => .ok (zipD xs ys, e2)
          | [.lst _ xs, .lst _ ys] => .ok (zipD xs ys, e2)
          | _ => .stuck)) := by
  obtain ⟨elts, kk, tpos, et⟩ : ∃ elts kk tpos, tg = .Tuple elts kk tpos := by
    cases tg <;> first | exact ⟨_, _, _, rfl⟩ | (simp [isTup] at ht)
  subst et
  obtain ⟨s1, n2⟩ := star_cons (env := X.env) hn
  refine ⟨fun pins s σ H RI I ⟨e, F, A, S, post⟩ => (RZ.pi_zipA (g.glob hg) (g.mod.free _ hf) ha s1 (star_any n2)).run pins s σ H RI I ?_⟩
  refine tA_of (T := []) S nilA post fun rvs e1 h1 vs H1 F1 A1 as1 st1 st01 S1 res1 post => ?_
  cases ht : takes e1 rvs with
  | err _ _ _ => exact (takes_noerr ht).elim
  | stuck => simp only [ht, R.bind] at post; exact post.elim
  | ok y =>
    obtain ⟨ds, e2⟩ := y
    simp only [ht, R.bind] at post
    obtain ⟨F2, A2, as2, s2, S2, r2, n2, d2, _, _, _⟩ := takes_ok S1 res1 ht
    have fz : Step (as2 ++ A2) H1 F2 A2 H1 (frzAt F2 H1 as2) := Step.freeze S2.sub (fun a z => List.mem_append_left _ z) (ReL.nt ds vs as2 r2) fun a z => List.mem_append_right _ z
    have S' : Sta X.K W.me (frzAt F2 H1 as2) H1 σ e2 A2 := S2.past (frzAt_sub S2.sub) (frzAt_le S2.sub) (fun _ _ _ q => q) (fun a z => by
      rw [frzAt_out fun q => (d2 a q).1 z]; exact S2.no a z) (fz.ax _ S2.ax)
    have r' := ReL.freeze (frzAt_le (as := as2) S2.sub) ds vs as2 (fun a z o q => by rw [frzAt_in z]; exact q) r2
    have st2 : Step A H F A2 H1 (frzAt F2 H1 as2) := ((show Step A H F (as1 ++ A1) H1 F1 by simpa using st01).trans s2).trans fz
    have mono0 : ∀ {ds : List D} {vs : List V}, ReL X.K W.me (frzAt F2 H1 as2) H1 ds vs [] → ReL X.K W.me (frzAt F2 H1 as2) (frzAt F2 H1 as2) ds vs [] := fun h => ReL.mono (Le.refl _) _ _ _ (fun a z => absurd z (by simp)) h
    have two : ∀ {x y : D}, frzL ds = [x, y] → ∃ v w, vs = [v, w] ∧ Rep X.K W.me (frzAt F2 H1 as2) H1 x v [] ∧ Rep X.K W.me (frzAt F2 H1 as2) H1 y w [] := fun {x y} e => by
      rw [e] at r'
      simp only [ReL] at r'
      obtain ⟨v, r, a1, a2, ev, ea, h1, w, r2', a3, a4, ev2, ea2, h2, h3, h4⟩ := r'
      subst h4; subst h3
      obtain ⟨z1, z2⟩ := List.append_eq_nil_iff.mp ea.symm
      subst z1; subst z2
      obtain ⟨z3, _⟩ := List.append_eq_nil_iff.mp ea2.symm
      subst z3
      exact ⟨v, w, by rw [ev, ev2], h1, h2⟩
    split at post
    · rename_i xs ys he
      have post : OkI X.K W.me σ A H F RI _ := post
      obtain ⟨v, w, ev, h1, h2⟩ := two he
      obtain ⟨p, xs', e3, q1, q2⟩ := rep_tup h1
      obtain ⟨q, ys', e4, q3, q4⟩ := rep_tup h2
      subst e3; subst e4
      exact ⟨p, q, xs', ys', ev, .inr ⟨S'.sub.seqT q1, S'.sub.seqT q3, post _ H1 _ A2 st2 S' (itok_zipT q1 q3 (mono0 q2) (mono0 q4))⟩⟩
    · rename_i m1 xs m2 ys he
      have post : OkI X.K W.me σ A H F RI _ := post
      obtain ⟨v, w, ev, h1, h2⟩ := two he
      obtain ⟨p, xs', e3, q1, q2⟩ := rep_lstF h1
      obtain ⟨q, ys', e4, q3, q4⟩ := rep_lstF h2
      subst e3; subst e4
      exact ⟨p, q, xs', ys', ev, .inl ⟨S'.sub.seqL q1, S'.sub.seqL q3, post _ H1 _ A2 st2 S' (itok_zipL q1 q3 (mono0 q2) (mono0 q4))⟩⟩
    · exact post.elim
/-- {} -/
theorem sE_dict0 {pos : Pos} : PE X (.Dict [] [] pos) (tE X.K W.me W fun e => .ok (.val (.dic .own [] []), e)) := PE.imp pe_dnewK fun σ H Q ⟨e, F, A, S, post⟩ p hp => by
  have post : OkE X.K W.me σ A H F Q (.val (.dic .own [] []), e) := post
  have hf := S.fresh hp
  have nA : ∀ a ∈ A, a ≠ p := fun a z q => S.live z (by rw [q]; exact hp)
  refine post (.ref p) _ F A [p] (Step.new hp) (S.past (fun a o q => ?_) (Le.refl F) (fun a z o q => ?_) S.no ((Step.new hp (B := A)).ax _ S.ax)) ⟨?_, by simp, fun a z => ?_⟩
  · rw [upd_ne (ne_of_none (S.sub a o q) hp)]; exact S.sub a o q
  · rw [upd_ne (nA a z)]; exact q
  · simp only [Rep]
    exact ⟨p, [], [], rfl, rfl, upd_same, rfl, by simp [ReL]⟩
  · rw [List.mem_singleton.mp z]
    exact ⟨fun q => nA p q rfl, hf⟩
theorem rel_reverse {K : PySem.W.Frag} {mg : Me} {F H : Hp} : ∀ {ds : List D} {vs : List V}, ReL K mg F H ds vs [] → ReL K mg F H ds.reverse vs.reverse []
  | [], vs, h => by simp only [ReL] at h; rw [h.1]; simp [ReL]
  | d :: ds, vs, h => by
    simp only [ReL] at h
    obtain ⟨v, r, a1, a2, e1, e2, h1, h2⟩ := h
    obtain ⟨e3, e4⟩ := List.append_eq_nil_iff.mp e2.symm
    subst e1; subst e3; subst e4
    rw [List.reverse_cons, List.reverse_cons]
    refine rel_append (as := []) (bs := []) (rel_reverse h2) ?_
    simp only [ReL]
    exact ⟨v, [], [], [], rfl, rfl, h1, rfl, rfl⟩
theorem sE_rev {a : Expr} {kk : Nat} {p1 p2 p3 pos : Pos} {f : En → R (RV × En)} (ha : PE X a (tE X.K W.me W f)) :
    PE X (.Subscript a (.Slice none none (some (.UnaryOp .USub (.Constant (.int 1) kk p1) p2)) p3) pos) (tE X.K W.me W fun e => (f e).bind fun (va, e1) => match content e1 va with
      | some (.tup xs) => if xs.isEmpty then .stuck else .ok (.val (.tup xs.reverse), e1)
      | some (.lst m xs) => if plainL xs then .ok (.val (.lst .own xs.reverse), e1) else .stuck
      | _ => .stuck) := PE.imp (pe_revA ha) fun σ H Q ⟨e, F, A, S, post⟩ => by
  refine tE_of (T := []) S nilA post fun rv e1 h1 v H1 F1 A1 as1 st1 st01 S1 res1 post => ?_
  cases ca : content e1 rv with
  | none => simp only [ca] at post; exact post.elim
  | some x =>
    simp only [ca] at post
    obtain ⟨a1, q1, _⟩ := ResV.content S1 res1 ca
    cases x <;> first | exact post.elim | skip
    · rename_i xs
      have post : PostG X.K W σ A H F (if xs.isEmpty = true then .stuck else .ok (.val (.tup xs.reverse), e1)) (OkE X.K W.me σ A H F Q) := post
      obtain ⟨p, vs, ev, hs, hr⟩ := rep_tup q1
      by_cases hx : xs.isEmpty = true
      · rw [if_pos hx] at post; exact post.elim
      · rw [if_neg hx] at post
        exact ⟨p, vs, ev, .inr ⟨S1.sub.seqT hs, fun q hq => (OkE.fin (T := as1) (by simpa using st01) S1 post).tupNew S1.sub (rel_reverse hr) hq⟩⟩
    · rename_i m xs
      have post : PostG X.K W σ A H F (if plainL xs = true then .ok (.val (.lst .own xs.reverse), e1) else .stuck) (OkE X.K W.me σ A H F Q) := post
      by_cases hx : plainL xs = true
      · rw [if_pos hx] at post
        obtain ⟨p, vs, bs, ev, hs, hr, _⟩ := rep_lst S1.sub q1
        exact ⟨p, vs, ev, .inl ⟨hs, fun q hq => (OkE.fin (T := as1) (by simpa using st01) S1 post).lstNew S1.sub (rel_reverse (rel_plain hx hr)) hq⟩⟩
      · rw [if_neg hx] at post; exact post.elim
end
end Ev

set_option Elab.async false
set_option linter.all false
set_option maxRecDepth 100000
set_option maxHeartbeats 4000000
/-! Ev19: expressions are reckoned as the evaluator says. -/
namespace Ev
variable [TabsC]
open PySem L2

section
variable {M : Gb} {cl : Cl} {G : Cn} {k : Nat} {W : WL} {X : Cx} {tg : Expr}
structure Snd (M : Gb) (cl : Cl) (n : Nat) : Prop where
  e : ∀ {G k W X}, Good M cl G k W X → ∀ x, PE X x (tE X.K W.me W (evE M cl G n x))
  o : ∀ {G k W X}, Good M cl G k W X → ∀ x, PE X x (tE X.K W.me W (evO M cl G n x))
  t : ∀ {G k W X}, Good M cl G k W X → ∀ x, PT X x (tT X.K W.me W (evT M cl G n x))
  ts : ∀ {G k W X}, Good M cl G k W X → ∀ op vs pos, PW X (.BoolOp op vs pos) (tT X.K W.me W (evTs M cl G n op vs))
  b : ∀ {G k W X}, Good M cl G k W X → ∀ op vs pos, PE X (.BoolOp op vs pos) (tE X.K W.me W (evB M cl G n op vs))
  a : ∀ {G k W X}, Good M cl G k W X → ∀ es, PA X es (tA X.K W.me W (evA M cl G n es))
  p : ∀ {G k W X}, Good M cl G k W X → ∀ x, PO X x (tO X.K W.me W (evP M cl G n x))
  f : ∀ {G k W X}, Good M cl G k W X → ∀ x, PTs X x (tT X.K W.me W (evF M cl G n x))
  w : ∀ {G k W X}, Good M cl G k W X → ∀ tg x, PI X tg x (tI X.K W.me W (evW M cl G n x))
  i : ∀ {G k W X}, Good M cl G k W X → ∀ tg x, PI X tg x (tI X.K W.me W (evI M cl G n tg x))
theorem evO_flat (n : Nat) (x : Expr) (e : En) (v : RV) (e' : En) (h : evO M cl G n x e = .ok (v, e')) : flat v = true := by
  cases n with
  | zero => unfold evO at h; cases h
  | succ n =>
    unfold evO at h
    cases q : evE M cl G n x e with
    | ok y => rw [q] at h; exact sole_flat h
    | err _ _ _ => rw [q] at h; cases h
    | stuck => rw [q] at h; cases h
theorem star_not {env : PySem.Env} {a : Expr} {r : List Expr} (h : ∀ y p, a ≠ .Starred y p) : starEach (a :: r) env = (false, eval a env) :: starEach r env := by
  cases a <;> first | rfl | exact absurd rfl (h _ _)
theorem evO_star (n : Nat) (y : Expr) (p : Pos) (e : En) : evO M cl G n (.Starred y p) e = .stuck := by
  cases n with
  | zero => unfold evO; rfl
  | succ n =>
    unfold evO
    cases n with
    | zero => unfold evE; rfl
    | succ n => unfold evE; rfl
theorem snd0 : Snd M cl 0 where
  e := fun _ x => ⟨fun _ _ _ _ _ _ ⟨_, _, _, _, post⟩ => by unfold evE at post; exact post.elim⟩
  o := fun _ x => ⟨fun _ _ _ _ _ _ ⟨_, _, _, _, post⟩ => by unfold evO at post; exact post.elim⟩
  t := fun _ x => ⟨fun _ _ _ _ _ _ ⟨_, _, _, _, post⟩ => by unfold evT at post; exact post.elim⟩
  ts := fun _ _ _ _ => ⟨fun _ _ _ _ _ _ _ ⟨_, _, _, _, post⟩ => by unfold evTs at post; exact post.elim⟩
  b := fun _ _ _ _ => ⟨fun _ _ _ _ _ _ ⟨_, _, _, _, post⟩ => by unfold evB at post; exact post.elim⟩
  a := fun _ x => ⟨fun _ _ _ _ _ _ _ ⟨_, _, _, _, post⟩ => by unfold evA at post; exact post.elim⟩
  p := fun _ x => ⟨fun _ _ _ _ _ _ ⟨_, _, _, _, post⟩ => by unfold evP at post; exact post.elim⟩
  f := fun _ x => ⟨fun _ _ _ _ _ _ ⟨_, _, _, _, post⟩ => by unfold evF at post; exact post.elim⟩
  w := fun _ _ x => ⟨fun _ _ _ _ _ _ ⟨_, _, _, _, post⟩ => by unfold evW at post; exact post.elim⟩
  i := fun _ _ x => ⟨fun _ _ _ _ _ _ ⟨_, _, _, _, post⟩ => by unfold evI at post; exact post.elim⟩
theorem snd_o {n : Nat} (ih : Snd M cl n) (g : Good M cl G k W X) (x : Expr) : PE X x (tE X.K W.me W (evO M cl G (n + 1) x)) := by
  have : evO M cl G (n + 1) x = fun e => (evE M cl G n x e).bind fun (v, e1) => sole e1 v := by funext e; unfold evO; rfl
  rw [this]
  exact sE_sole (ih.e g x)
theorem snd_w {n : Nat} (ih : Snd M cl n) (g : Good M cl G k W X) (tg x : Expr) : PI X tg x (tI X.K W.me W (evW M cl G (n + 1) x)) := by
  have : evW M cl G (n + 1) x = fWalk (evE M cl G n x) := by funext e; unfold evW; rfl
  rw [this]
  exact sW (ih.e g x)
theorem snd_ts {n : Nat} (ih : Snd M cl n) (g : Good M cl G k W X) (op : BoolOp) (vs : List Expr) (pos : Pos) : PW X (.BoolOp op vs pos) (tT X.K W.me W (evTs M cl G (n + 1) op vs)) := by
  match vs with
  | [] => exact ⟨fun _ _ _ _ _ _ _ ⟨_, _, _, _, post⟩ => by unfold evTs at post; exact post.elim⟩
  | [a] =>
    have : evTs M cl G (n + 1) op [a] = evT M cl G n a := by funext e; conv => lhs; unfold evTs
    rw [this]
    exact sTs_one (ih.t g a)
  | a :: b :: r =>
    have : evTs M cl G (n + 1) op (a :: b :: r) = fun e => (evT M cl G n a e).bind fun (c, e1) => if stops op c then .ok (c, e1) else evTs M cl G n op (b :: r) e1 := by funext e; conv => lhs; unfold evTs
    rw [this]
    exact sTs_cons (ih.t g a) (ih.ts g op (b :: r) pos)
theorem snd_b {n : Nat} (ih : Snd M cl n) (g : Good M cl G k W X) (op : BoolOp) (vs : List Expr) (pos : Pos) : PE X (.BoolOp op vs pos) (tE X.K W.me W (evB M cl G (n + 1) op vs)) := by
  match vs with
  | [] => exact ⟨fun _ _ _ _ _ _ ⟨_, _, _, _, post⟩ => by unfold evB at post; exact post.elim⟩
  | [a] =>
    have : evB M cl G (n + 1) op [a] = evE M cl G n a := by funext e; conv => lhs; unfold evB
    rw [this]
    exact pe_one (ih.e g a)
  | a :: b :: r =>
    have : evB M cl G (n + 1) op (a :: b :: r) = fun e => (evE M cl G n a e).bind fun (v, e1) => match content e1 v with
      | some d => (ofO (truth d)).bind fun c => if stops op c then .ok (v, e1) else evB M cl G n op (b :: r) e1
      | none => .stuck := by
      funext e
      conv => lhs; unfold evB
      all_goals rfl
    rw [this]
    exact sE_and (ih.e g a) (ih.b g op (b :: r) pos)
theorem snd_a {n : Nat} (ih : Snd M cl n) (g : Good M cl G k W X) (es : List Expr) : PA X es (tA X.K W.me W (evA M cl G (n + 1) es)) := by
  match es with
  | [] =>
    have : evA M cl G (n + 1) [] = fun e => .ok ([], e) := by funext e; unfold evA; rfl
    rw [this]
    exact sA_nil
  | a :: r =>
    have : evA M cl G (n + 1) (a :: r) = fun e => (evO M cl G n a e).bind fun (v, e1) => (evA M cl G n r e1).bind fun (vs, e2) => .ok (v :: vs, e2) := by funext e; conv => lhs; unfold evA
    rw [this]
    by_cases hs : ∃ y p, a = .Starred y p
    · obtain ⟨y, p, ea⟩ := hs
      subst ea
      exact ⟨fun _ _ _ _ _ _ _ ⟨_, _, _, _, post⟩ => by simp only [evO_star] at post; exact post.elim⟩
    · exact sA_cons (star_not fun y p q => hs ⟨y, p, q⟩) (ih.o g a) (ih.a g r) (evO_flat n a)
theorem snd_p {n : Nat} (ih : Snd M cl n) (g : Good M cl G k W X) (x : Option Expr) : PO X x (tO X.K W.me W (evP M cl G (n + 1) x)) := by
  cases x with
  | none =>
    have : evP M cl G (n + 1) none = fun e => .ok (none, e) := by funext e; unfold evP; rfl
    rw [this]
    exact sP_none
  | some a =>
    have : evP M cl G (n + 1) (some a) = fun e => (evE M cl G n a e).bind fun (v, e1) => match content e1 v with | some (.int i) => .ok (some i, e1) | _ => .stuck := by funext e; unfold evP; rfl
    rw [this]
    exact sP_some (ih.e g a)
theorem snd_f {n : Nat} (ih : Snd M cl n) (g : Good M cl G k W X) (x : List Expr) : PTs X x (tT X.K W.me W (evF M cl G (n + 1) x)) := by
  match x with
  | [] =>
    refine ⟨fun pins s σ H Q I ⟨e, F, A, S, post⟩ => pts_nil.run pins s σ H Q I ?_⟩
    unfold evF at post
    have post : OkT X.K W.me σ A H F Q (true, e) := post
    exact post H F A stid S
  | [a] =>
    have : evF M cl G (n + 1) [a] = evT M cl G n a := by funext e; conv => lhs; unfold evF
    rw [this]
    exact pts_one (ih.t g a)
  | _ :: _ :: _ => exact ⟨fun _ _ _ _ _ _ ⟨_, _, _, _, post⟩ => by unfold evF at post; exact post.elim⟩
end
end Ev

set_option Elab.async false
set_option linter.all false
set_option maxRecDepth 100000
set_option maxHeartbeats 4000000
/-! Ev20: expressions, put together. -/
namespace Ev
variable [TabsC]
open PySem L2

section
variable {M : Gb} {cl : Cl} {G : Cn} {k : Nat} {W : WL} {X : Cx} {tg : Expr}
theorem evE_cmp (n : Nat) (a b : Expr) (op : CmpOp) (p : Pos) : evE M cl G (n + 1) (.Compare a [op] [b] p) = if okC op b then fCmp op (evO M cl G n a) (evO M cl G n b) else fun _ => .stuck := by
  funext e
  conv => lhs; unfold evE
  dsimp only
  cases okC op b <;> rfl
theorem evE_chain (n : Nat) (a b c : Expr) (op op2 : CmpOp) (p : Pos) : evE M cl G (n + 1) (.Compare a [op, op2] [b, c] p) = if plainOp op && plainOp op2 then fChain op op2 (evO M cl G n a) (evO M cl G n b) (evO M cl G n c) else fun _ => .stuck := by
  funext e
  conv => lhs; unfold evE
  dsimp only
  cases (plainOp op && plainOp op2) <;> rfl
theorem pt_st {x : Expr} {f : En → R (Bool × En)} (h : ∀ e, f e = .stuck) : PT X x (tT X.K W.me W f) := ⟨fun pins s σ H Q I ⟨e, F, A, S, post⟩ => by rw [h] at post; exact post.elim⟩
theorem pe_st {x : Expr} {f : En → R (RV × En)} (h : ∀ e, f e = .stuck) : PE X x (tE X.K W.me W f) := ⟨fun pins s σ H Q I ⟨e, F, A, S, post⟩ => by rw [h] at post; exact post.elim⟩
theorem snd_tc {n : Nat} (ih : ∀ m, m ≤ n → Snd M cl m) (g : Good M cl G k W X) (a : Expr) (ops : List CmpOp) (es : List Expr) (p : Pos) : PT X (.Compare a ops es p) (tT X.K W.me W (fTru (evE M cl G n (.Compare a ops es p)))) := by
  cases n with
  | zero => exact pt_st fun e => by simp only [fTru, evE, R.bind]
  | succ n =>
    have ih' := ih n (Nat.le_succ n)
    match ops, es with
    | [op], [b] =>
      rw [evE_cmp]
      by_cases hp : okC op b = true
      · rw [if_pos hp]
        exact sT_cmp g hp (ih'.o g a) (ih'.o g b) (evO_flat n a)
      · rw [if_neg hp]
        exact pt_st fun e => rfl
    | [op, op2], [b, c] =>
      rw [evE_chain]
      by_cases hp : (plainOp op && plainOp op2) = true
      · rw [if_pos hp]
        exact sT_chain g hp (ih'.o g a) (ih'.o g b) (ih'.o g c) (evO_flat n a) (evO_flat n b)
      · rw [if_neg hp]
        exact pt_st fun e => rfl
    | [], _ => exact pt_st fun e => by simp only [fTru, evE, R.bind]
    | [_], [] => exact pt_st fun e => by simp only [fTru, evE, R.bind]
    | [_], _ :: _ :: _ => exact pt_st fun e => by simp only [fTru, evE, R.bind]
    | [_, _], [] => exact pt_st fun e => by simp only [fTru, evE, R.bind]
    | [_, _], [_] => exact pt_st fun e => by simp only [fTru, evE, R.bind]
    | [_, _], _ :: _ :: _ :: _ => exact pt_st fun e => by simp only [fTru, evE, R.bind]
    | _ :: _ :: _ :: _, _ => exact pt_st fun e => by simp only [fTru, evE, R.bind]
theorem snd_t {n : Nat} (ih : ∀ m, m ≤ n → Snd M cl m) (g : Good M cl G k W X) (x : Expr) : PT X x (tT X.K W.me W (evT M cl G (n + 1) x)) := by
  have ih' := ih n (Nat.le_refl n)
  have df : (∀ e, evT M cl G (n + 1) x e = fTru (evE M cl G n x) e) → PT X x (tT X.K W.me W (fTru (evE M cl G n x))) → PT X x (tT X.K W.me W (evT M cl G (n + 1) x)) := fun h q => by
    rw [show evT M cl G (n + 1) x = fTru (evE M cl G n x) from funext h]
    exact q
  cases x with
  | BoolOp op vs p =>
    have : evT M cl G (n + 1) (.BoolOp op vs p) = evTs M cl G n op vs := by funext e; conv => lhs; unfold evT
    rw [this]
    exact (ih'.ts g op vs p).pt
  | UnaryOp op a p =>
    cases op with
    | Not =>
      have : evT M cl G (n + 1) (.UnaryOp .Not a p) = fun e => (evT M cl G n a e).bind fun (b, e1) => .ok (!b, e1) := by funext e; conv => lhs; unfold evT
      rw [this]
      exact sT_not (ih'.t g a)
    | _ => exact df (fun e => by unfold evT; rfl) (sT_tru (ih'.e g _) fun _ => rfl)
  | IfExp c a b p =>
    have : evT M cl G (n + 1) (.IfExp c a b p) = fun e => (evT M cl G n c e).bind fun (c, e1) => if c then evT M cl G n a e1 else evT M cl G n b e1 := by funext e; conv => lhs; unfold evT
    rw [this]
    exact sT_if (ih'.t g c) (ih'.t g a) (ih'.t g b)
  | Compare a ops es p => exact df (fun e => by unfold evT; rfl) (snd_tc ih g a ops es p)
  | _ => exact df (fun e => by unfold evT; rfl) (sT_tru (ih'.e g _) fun _ => rfl)
theorem evW_star {n : Nat} {x : Expr} (h : evE M cl G n x = fun _ => .stuck) (e : En) : evW M cl G (n + 1) x e = .stuck := by
  unfold evW
  rw [h]; rfl
theorem snd_i {n : Nat} (ih : Snd M cl n) (g : Good M cl G k W X) (tg x : Expr) : PI X tg x (tI X.K W.me W (evI M cl G (n + 1) tg x)) := by
  refine ⟨fun pins s σ H RI I ⟨e, F, A, S, post⟩ => ?_⟩
  unfold evI at post
  split at post
  · rename_i f p a q _
    by_cases hr : (f == "range") = true
    · rw [if_pos hr] at post
      have ef : f = "range" := eq_of_beq hr
      subst ef
      split at post
      · exact post.elim
      · by_cases hg : (G.glob "range" && M.free.contains "range") = true
        · rw [if_pos hg] at post
          rw [Bool.and_eq_true] at hg
          by_cases hn : noStar [a] = true
          · exact (sR1 g hn hg.1 hg.2 (ih.e g a)).run pins s σ H RI I ⟨e, F, A, S, post⟩
          · cases a <;> first | exact absurd rfl hn | skip
            cases n <;> (simp only [evE, R.bind] at post; exact post.elim)
        · rw [if_neg hg] at post; exact post.elim
    · rw [if_neg hr] at post
      by_cases hr2 : (f == "enumerate") = true
      · rw [if_pos hr2] at post
        have ef : f = "enumerate" := eq_of_beq hr2
        subst ef
        split at post
        · exact post.elim
        · by_cases hg : (G.glob "enumerate" && M.free.contains "enumerate" && isTup tg) = true
          · rw [if_pos hg] at post
            rw [Bool.and_eq_true, Bool.and_eq_true] at hg
            by_cases hn : noStar [a] = true
            · exact (sEn g hg.2 hn hg.1.1 hg.1.2 (ih.e g a)).run pins s σ H RI I ⟨e, F, A, S, post⟩
            · cases a <;> first | exact absurd rfl hn | skip
              cases n <;> (simp only [evE, R.bind] at post; exact post.elim)
          · rw [if_neg hg] at post; exact post.elim
      · rw [if_neg hr2] at post
        exact (ih.w g tg _).run pins s σ H RI I ⟨e, F, A, S, post⟩
  · rename_i f p a b q _
    by_cases hr : (f == "range") = true
    · rw [if_pos hr] at post
      have ef : f = "range" := eq_of_beq hr
      subst ef
      split at post
      · exact post.elim
      · by_cases hg : (G.glob "range" && M.free.contains "range" && noStar [a, b]) = true
        · rw [if_pos hg] at post
          rw [Bool.and_eq_true, Bool.and_eq_true] at hg
          exact (sR2 g hg.2 hg.1.1 hg.1.2 (ih.o g a) (ih.e g b) (evO_flat n a)).run pins s σ H RI I ⟨e, F, A, S, post⟩
        · rw [if_neg hg] at post; exact post.elim
    · rw [if_neg hr] at post
      by_cases hr2 : (f == "zip") = true
      · rw [if_pos hr2] at post
        have ef : f = "zip" := eq_of_beq hr2
        subst ef
        split at post
        · exact post.elim
        · by_cases hg : (G.glob "zip" && M.free.contains "zip" && isTup tg && noStar [a, b]) = true
          · rw [if_pos hg] at post
            simp only [Bool.and_eq_true] at hg
            exact (sZip g hg.1.2 hg.2 hg.1.1.1 hg.1.1.2 (ih.a g [a, b])).run pins s σ H RI I ⟨e, F, A, S, post⟩
          · rw [if_neg hg] at post; exact post.elim
      · rw [if_neg hr2] at post
        exact (ih.w g tg _).run pins s σ H RI I ⟨e, F, A, S, post⟩
  · exact (ih.w g tg _).run pins s σ H RI I ⟨e, F, A, S, post⟩
end
end Ev

set_option Elab.async false
set_option linter.all false
set_option maxRecDepth 100000
set_option maxHeartbeats 4000000
/-! EvL: a lambda is made and handed to a def. -/
namespace Ev
variable [TabsC]
open PySem L2
open PyProof.Rows (envOfC)

section
variable {K : PySem.W.Frag} {me me' : Me} {F H : Hp}
mutual
/-- what has no lambda in it is the same for both -/
theorem Rep.swap (ho : ∀ x, x ≠ lamN → me.of x = me'.of x) : ∀ (d : D) (v : V) (as : List Addr), noClo d = true → Rep K me F H d v as → Rep K me' F H d v as
  | .non, v, as, n, h => by simp only [Rep] at h ⊢; exact h
  | .bl b, v, as, n, h => by simp only [Rep] at h ⊢; exact h
  | .int i, v, as, n, h => by simp only [Rep] at h ⊢; exact h
  | .str x, v, as, n, h => by simp only [Rep] at h ⊢; exact h
  | .ty t, v, as, n, h => by simp only [Rep] at h ⊢; exact h
  | .fn x, v, as, n, h => by
    simp only [Rep] at h ⊢
    obtain ⟨e, a, ev, hm⟩ := h
    refine ⟨e, a, ev, ?_⟩
    rw [← ho x (by simpa [noClo] using n)]
    exact hm
  | .cloV _, _, _, n, _ => by simp [noClo] at n
  | .cloX _ _ _, _, _, n, _ => by simp [noClo] at n
  | .tup ds, v, as, n, h => by
    simp only [Rep] at h ⊢
    obtain ⟨e, a, vs, ev, hs, hr⟩ := h
    exact ⟨e, a, vs, ev, hs, ReL.swap ho ds vs [] (by simpa [noClo] using n) hr⟩
  | .lst .own ds, v, as, n, h => by
    simp only [Rep] at h ⊢
    obtain ⟨a, vs, bs, ev, e, hs, hr⟩ := h
    exact ⟨a, vs, bs, ev, e, hs, ReL.swap ho ds vs bs (by simpa [noClo] using n) hr⟩
  | .lst .fro ds, v, as, n, h => by
    simp only [Rep] at h ⊢
    obtain ⟨e, a, vs, ev, hs, hr⟩ := h
    exact ⟨e, a, vs, ev, hs, ReL.swap ho ds vs [] (by simpa [noClo] using n) hr⟩
  | .lst .ext ds, v, as, n, h => by
    simp only [Rep] at h ⊢
    obtain ⟨e, a, vs, ev, hs, hr⟩ := h
    exact ⟨e, a, vs, ev, hs, ReL.swap ho ds vs [] (by simpa [noClo] using n) hr⟩
  | .dic .own ks ds, v, as, n, h => by
    simp only [Rep] at h ⊢
    obtain ⟨a, kvs, bs, ev, e, hs, hk, hr⟩ := h
    exact ⟨a, kvs, bs, ev, e, hs, hk, ReL.swap ho ds _ bs (by simpa [noClo] using n) hr⟩
  | .dic .fro ks ds, v, as, n, h => by
    simp only [Rep] at h ⊢
    obtain ⟨e, a, kvs, ev, hs, hk, hr⟩ := h
    exact ⟨e, a, kvs, ev, hs, hk, ReL.swap ho ds _ [] (by simpa [noClo] using n) hr⟩
  | .dic .ext ks ds, v, as, n, h => by
    simp only [Rep] at h ⊢
    obtain ⟨e, a, kvs, ev, hs, hk, hr⟩ := h
    exact ⟨e, a, kvs, ev, hs, hk, ReL.swap ho ds _ [] (by simpa [noClo] using n) hr⟩
theorem ReL.swap (ho : ∀ x, x ≠ lamN → me.of x = me'.of x) : ∀ (ds : List D) (vs : List V) (as : List Addr), noCloL ds = true → ReL K me F H ds vs as → ReL K me' F H ds vs as
  | [], vs, as, n, h => by simp only [ReL] at h ⊢; exact h
  | d :: ds, vs, as, n, h => by
    simp only [ReL] at h ⊢
    simp only [noCloL, Bool.and_eq_true] at n
    obtain ⟨v, r, a1, a2, ev, e, h1, h2⟩ := h
    exact ⟨v, r, a1, a2, ev, e, Rep.swap ho d v a1 n.1 h1, ReL.swap ho ds r a2 n.2 h2⟩
end
theorem EL.bare : ∀ {e : En} {σ : St} {A : List Addr}, EL K me F H e σ A → EL K me F H (bareE e) σ []
  | [], σ, A, h => by simp only [EL, bareE] at h ⊢; exact ⟨h.1, trivial⟩
  | none :: e, σ, A, h => by
    simp only [EL, bareE] at h ⊢
    obtain ⟨o, r, es, h⟩ := h
    exact ⟨o, r, es, EL.bare h⟩
  | some d :: e, σ, A, h => by
    simp only [EL] at h
    obtain ⟨v, r, a1, a2, es, ea, h1, h2⟩ := h
    by_cases ho : owned d = true
    · simp only [bareE, ho, if_true, EL]
      exact ⟨some v, r, es, EL.bare h2⟩
    · simp only [bareE, if_neg ho, EL]
      have ea1 := Rep.bare (by simpa using ho) h1
      subst ea1
      exact ⟨v, r, [], [], es, rfl, h1, EL.bare h2⟩
theorem XRep.swap (hK : me.K = me'.K) (ho : ∀ x, x ≠ lamN → me.of x = me'.of x) {c : Str} {fs : List (Str × D)} {cls : Value} {d : Option Addr} (hc : c ≠ lamN) (n : noCloL (fs.map (·.2)) = true) (h : XRep me F c fs cls d) : XRep me' F c fs cls d := by
  obtain ⟨C, e1, e2, h⟩ := h
  refine ⟨C, e1, by rw [← ho c hc]; exact e2, h.imp id fun ⟨dd, vfs, q1, q2, q3, q4⟩ => ⟨dd, vfs, q1, q2, q3, ?_⟩⟩
  rw [← hK]
  exact ReL.swap ho _ _ _ n q4
end
/-- where the def that is handed the lambda reckons -/
abbrev meL (me : Me) (f c' : Addr) (q : Str) (c : D) (F : Hp) : Me := { K := me.K, of := fun x => if x = lamN then some (.ref f) else me.of x, clo := some c, F0 := F, cod := (c', q) :: me.cod }
theorem meL_of {me : Me} {f c' : Addr} {q : Str} {c : D} {F : Hp} : ∀ x, x ≠ lamN → me.of x = (meL me f c' q c F).of x := fun x hx => by
  show me.of x = if x = lamN then _ else _
  rw [if_neg hx]
theorem meL_lam {me : Me} {f c' : Addr} {q : Str} {c : D} {F : Hp} : (meL me f c' q c F).of lamN = some (.ref f) := by
  simp [meL]
theorem zip_fs : ∀ (fs : List (Str × D)), (fs.map (·.1)).zip (fs.map (·.2)) = fs
  | [] => rfl
  | x :: fs => by rw [List.map_cons, List.map_cons, List.zip_cons_cons, zip_fs fs]
/-- a state that owns what it owns, behind a step that owns nothing -/
theorem Sta.by {K : PySem.W.Frag} {me : Me} {F H F' H' : Hp} {σ : St} {e : En} {A B : List Addr} (S : Sta K me F H σ e A) (st : Step [] H F B H' F') (sub : Le F' H') : Sta K me F' H' σ e A ∧ ∀ a ∈ B, a ∉ A := by
  refine ⟨S.past sub st.le (fun a z o q => st.keep a o q (S.nt z q) (by simp)) (fun a z => ?_) (st.ax _ S.ax), fun a z q => ?_⟩
  · cases q : F' a with
    | none => rfl
    | some o =>
      rcases st.fr a (by rw [q]; simp) with y | y | y
      · exact absurd (S.no a z) y
      · exact absurd y (by simp)
      · exact absurd y (S.old z)
  · rcases st.own a z with y | y
    · exact absurd y (by simp)
    · exact S.old q y
section
variable {M : Gb} {cl : Cl} {G : Cn} {k j : Nat} {W : WL} {X : Cx}
/-- where a lambda's body is reckoned -/
theorem Good.lamb {A : Around} {outer : List PySem.Env} {s : Shared} {H : Hp} {E : XK} {scope : Scope} {f c' : Addr} (g : Good M cl G k W X) (hs : LamX.lamSB G.sc scope = true) (hr : Room j (A.deeper (LamX.lamEnv X scope s.heap.objs.size f c'))) (hgd : A.guards = some [])
    (hno : W.me.clo = none) (low : ∀ f, M.defs.contains f = true → ∃ fa fd ps, X.mg f = some (.ref fa) ∧ PySem.W.keepIn X.K (.ref fa) = true ∧ Binds X.K fd ps [] ∧ FnG X.prog X.w X.K X.mg X.base (L2.CX X.prog X.w) j fa fd ps (spC X.prog X.w X.K X.mg X.base cl.low f)) :
    Good M cl (G.lamb scope) j ⟨fun cls d _ H' => E cls d H', fun _ => False, W.me⟩ (LamX.lamCx X A outer s H E scope f c') where
  N := g.N
  sc := rfl
  fn := rfl
  nd := g.nd
  nn := g.nn
  mod := g.mod
  me := g.me
  offL := fun i ⟨x, _, hl, _⟩ => by
    have L := LamX.lamS_by hs
    unfold Cn.loc Cn.kind at hl
    split at hl
    · rename_i q
      exact (L.own _ (PySem.mem_of_lookup q)).1 rfl
    · cases hl
    · cases hl
  calm := rfl
  room := hr
  guards := hgd
  takes := takes_of rfl rfl rfl rfl
  own := passes_of rfl
  noclo := fun _ => hno
  calls := low
  lows := fun h _ => by cases h
  act := fun h => by cases h
  mkl := fun h => by cases h
theorem noPs_eq {ps : Arguments} (h : noPs ps = true) : ps = ⟨[], [], none, [], [], none, []⟩ := by
  unfold noPs at h
  split at h
  · rfl
  · cases h
/-- the lambda is called, wherever it was handed to -/
theorem lam_act {pins : List (Addr × Obj)} {σ : St} {H F : Hp} {s : Shared} {A : List Addr} {e : En} {ps : Arguments} {body : Expr} {scope : Scope} {f c' : Addr} {pm ctv : Value} {c : D} {fb : En → R (RV × En)}
    (I : Inv X pins σ H s) (g : Good M cl G (j + 2) W X) (hps : noPs ps = true) (hs : LamX.lamSB G.sc scope = true) (hf : s.heap.get? f = some (PySem.W.kla_obj "<lambda>" (X.env.qual ++ "<lambda>") ps body scope (cloFrom X.env.cells scope.names []) pm c' ctv)) (hfn : H f = none) (hfr : f ∉ frs X.stack)
    (S : Sta X.K W.me F H σ e A) (hno : W.me.clo = none)
    (low : ∀ f, M.defs.contains f = true → ∃ fa fd ps, X.mg f = some (.ref fa) ∧ PySem.W.keepIn X.K (.ref fa) = true ∧ Binds X.K fd ps [] ∧ FnG X.prog X.w X.K X.mg X.base (L2.CX X.prog X.w) j fa fd ps (spC X.prog X.w X.K X.mg X.base cl.low f))
    (hbody : ∀ {k W X}, Good M cl (G.lamb scope) k W X → PE X body (tE X.K W.me W fb)) (hc : closOf (fb (bareE e)) = some c) :
    ActOk X.prog X.w X.K X.mg X.base (meL W.me f c' (X.env.qual ++ "<lambda>") c F) X.A X.stack s H := by
  intro k N qual sc fg cdv E pn xe W2 i x p1 p2 hme tk _ hN hv hd hcd
  have L : LamX.LamS X.env.scope scope := by rw [g.sc]; exact LamX.lamS_by hs
  have hr2 : Room (j + 1) (X.A.deeper (envOfC qual sc s.heap.objs.size fg cdv)) := g.room.deeper _
  refine ⟨fun pinsZ sZ σZ HZ Q IZ ⟨eZ, FZ, AZ, SZ, post⟩ => ?_⟩
  rw [hme] at SZ
  -- the slot holds the lambda
  have hslot : ∀ c2, getE eZ i = some c2 → (∃ d, c2 = .cloV d) ∨ (∃ n ks ds, c2 = .cloX n ks ds) → σZ[i]? = some (some (.ref f)) ∧ c2 = c := fun c2 h2 hk => by
    obtain ⟨v, pre, a1, po, q1, q2, q3, _⟩ := EL.at SZ.el h2
    rcases hk with ⟨d, ek⟩ | ⟨n, ks, ds, ek⟩ <;> subst ek <;> simp only [Rep] at q3 <;> (
      obtain ⟨_, e1, a, ev, hm⟩ := q3
      rw [if_pos trivial] at hm
      cases hm
      subst ev
      cases e1
      exact ⟨q1, rfl⟩)
  have main : σZ[i]? = some (some (.ref f)) → PostG X.K ⟨fun cls d _ H' => W2.w cls d σZ H', fun _ => False, W.me⟩ σ [] HZ FZ (fb (bareE e)) (OkE X.K W.me σ [] HZ FZ Q) →
      wpAny (model X.prog X.w) (X.A.deeper (envOfC qual sc s.heap.objs.size fg cdv)) (eval (.Call (.Name x p1) [] [] p2) ((cxOf (L2.CX X.prog X.w) X.prog X.w X.K X.mg X.base N qual sc fg cdv X.A X.stack s H E).tr pn xe).env) (EP ((cxOf (L2.CX X.prog X.w) X.prog X.w X.K X.mg X.base N qual sc fg cdv X.A X.stack s H E).tr pn xe) pinsZ σZ Q) xe sZ := fun hs0 pf => by
    refine wpAny_Call_Name_kw (thn ((pe_var (pos := p1) (i := i) hN hv hd hcd).run pinsZ sZ σZ HZ (fun v H1 => v = .ref f ∧ H1 = HZ) IZ ⟨.ref f, hs0, rfl, rfl⟩) fun u s1 ⟨v, H1, I1, r1, ev, eH⟩ => ?_)
    subst ev
    rw [eH] at I1
    obtain rfl : u = Value.ref f := r1
    have at1 := I1.base.keep f _ hf hfn hfr (fun z => nomatch (show f ∈ ([] : List Addr) from z))
    refine PySem.W.callWith_F0 ⟨_, _, _, _, at1⟩ (wpAny_call (codeAny_mono (R := CR (L2.CX X.prog X.w) (envOfC qual sc s.heap.objs.size fg cdv :: X.stack) X.prog X.w HZ s1 Q (fun cls d H' => W2.w cls d σZ H')) ?_ fun r s' hq => ?_))
    · have co := SZ.ax.2.1.2 (c', X.env.qual ++ "<lambda>") (by simp)
      obtain ⟨⟨oc, vs, t, hoc, hdc, hvc⟩, _, _⟩ := I1.hok c' _ co
      have eps := noPs_eq hps
      refine PySem.W.kla_callFunE hr2.depth at1 rfl L.co L.gen rfl ⟨c', oc, vs, t, rfl, hoc, hdc, hvc⟩ ?_
      rw [show bindArgs (PySem.W.kla_fn "<lambda>" (X.env.qual ++ "<lambda>") ps body scope (cloFrom X.env.cells scope.names []) pm (.ref c') ctv) ⟨[] ++ [], []⟩ = pure [] by rw [eps]; rfl]
      refine wpAny_pure (wpAny_newFunctionEnv (fun y hy => (L.own y hy).2) (fun y hy => absurd hy (by simp)) (fun h₁ hns hsb => ⟨I1.nolimit.fresh _ hsb, ?_⟩) L.kind)
      have kp : ∀ b o, s1.heap.get? b = some o → h₁.get? b = some o := fun b o q => hsb.extBut b o (Nat.ne_of_lt (Heap.lt_size q)) (Heap.get?_push_of_some _ q)
      have J := LamX.lam_start2 (E := fun cls d H' => W2.w cls d σZ H') (f := f) (c' := c') (tk := s1.toks + ([] : List (Str × Value)).length) I L I1.env0 hr2.hd I1.base hns kp
      have gg := Good.lamb (s := s1) (H := HZ) (E := fun cls d H' => W2.w cls d σZ H') (f := f) (c' := c') (outer := envOfC qual sc s.heap.objs.size fg cdv :: X.stack) g hs (hr2.deeper _) g.guards hno low
      refine PySem.W.kla_codeExpr (wpAny_mono ((hbody gg).run [] _ σ HZ Q J ⟨bareE e, FZ, [], ⟨SZ.sub, EL.mono SZ.ax.2.2 _ _ _ (fun _ z => absurd z (by simp)) (EL.bare S.el), .nil, fun _ z => absurd z (by simp), SZ.ax.1, ⟨SZ.ax.2.1.1, ?_⟩, S.ax.2.2.trans SZ.ax.2.2⟩, pf⟩) (fun v s' hq => ?_) fun e s' hq => hq)
      · exact fun p hp => SZ.ax.2.1.2 p (List.mem_cons_of_mem _ hp)
      · obtain ⟨w', H', J', rv, q⟩ := hq
        exact ⟨w', H', J'.os, J'.bare, J'.base, J'.hok, rv, q⟩
    · cases r with
      | error er => exact tk er s' (XE.of_call I1 (fun cls d H' h => h) hq)
      | ok fl =>
        cases fl with
        | ret u => exact I1.after hq
        | next => exact False.elim hq
        | brk => exact False.elim hq
        | cont => exact False.elim hq
  cases hfb : fb (bareE e) with
  | stuck => rw [hfb] at hc; cases hc
  | ok y =>
    obtain ⟨rv, e1⟩ := y
    rw [hfb] at hc
    cases rv with
    | han _ _ => cases hc
    | val d =>
      simp only [closOf] at hc
      by_cases hn : noClo d = true
      · rw [if_pos hn] at hc
        cases hc
        cases hg : getE eZ i with
        | none => simp only [fCallC, hg] at post; exact post.elim
        | some c2 =>
          cases c2 with
          | cloV d2 =>
            simp only [fCallC, hg] at post
            obtain ⟨hs0, he⟩ := hslot _ hg (.inl ⟨_, rfl⟩)
            cases he
            refine main hs0 ?_
            rw [hfb]
            intro v H' F' A' as st S' r
            have st' : Step [] HZ FZ as H' F' := st.less fun a z => List.mem_append_left _ z
            obtain ⟨SZ', out⟩ := SZ.by st' S'.sub
            have post : OkE X.K W2.me σZ AZ HZ FZ Q (.val d, eZ) := post
            rw [hme] at post
            have fr := st'.frame AZ
            refine post v H' F' AZ as (fr.more (by simp) |>.less fun a z => by simp only [List.mem_append] at z ⊢; rcases z with z | z <;> simp [z]) SZ' ⟨Rep.swap meL_of _ _ _ hn r.1, r.2.1, fun a z => ⟨out a z, (r.2.2 a z).2⟩⟩
          | cloX c3 ks ds =>
            obtain ⟨_, he⟩ := hslot _ hg (.inr ⟨_, _, _, rfl⟩)
            cases he
          | _ => simp only [fCallC, hg] at post; exact post.elim
      · rw [if_neg hn] at hc; cases hc
  | err n fs e1 =>
    rw [hfb] at hc
    simp only [closOf] at hc
    by_cases hn : (noCloL (fs.map (·.2)) && n != Str.ofString "<lambda>") = true
    · rw [if_pos hn] at hc
      cases hc
      rw [Bool.and_eq_true] at hn
      cases hg : getE eZ i with
      | none => simp only [fCallC, hg] at post; exact post.elim
      | some c2 =>
        cases c2 with
        | cloX c3 ks ds =>
          simp only [fCallC, hg] at post
          obtain ⟨hs0, he⟩ := hslot _ hg (.inr ⟨_, _, _, rfl⟩)
          cases he
          rw [zip_fs] at post
          refine main hs0 ?_
          rw [hfb]
          intro cls d σ' H' F' A' x st S' _
          have st' : Step [] HZ FZ [] H' F' := st.less fun a z => absurd z (by simp)
          obtain ⟨SZ', _⟩ := SZ.by st' S'.sub
          have post : ErrP X.K W2 σZ AZ HZ FZ n fs eZ := post
          have x' : XRep W2.me F' n fs cls d := by
            rw [hme]
            exact XRep.swap (me := W.me) (me' := meL W.me f c' (X.env.qual ++ "<lambda>") (.cloX n (fs.map (·.1)) (fs.map (·.2))) F) rfl meL_of (by simpa using hn.2) hn.1 x
          refine post cls d σZ H' F' AZ x' ((st'.frame AZ).more (by simp) |>.less fun a z => by simpa using z) (by rw [hme]; exact SZ') (Off.refl _ _)
        | cloV d2 =>
          obtain ⟨_, he⟩ := hslot _ hg (.inl ⟨_, rfl⟩)
          cases he
        | _ => simp only [fCallC, hg] at post; exact post.elim
    · rw [if_neg hn] at hc; cases hc
/-- f(lambda: body), f a def of the module -/
theorem sE_lam {f : Str} {p lpos pos : Pos} {ps : Arguments} {body : Expr} {scope : Scope} {fb : En → R (RV × En)} (g : Good M cl G k W X) (hl : G.lam = true) (htw : cl.two = true) (hps : noPs ps = true) (hs : LamX.lamSB G.sc scope = true) (hg : G.glob f = true) (hd : M.defs.contains f = true)
    (hbody : ∀ {k W X}, Good M cl (G.lamb scope) k W X → PE X body (tE X.K W.me W fb)) :
    PE X (.Call (.Name f p) [.Lambda ps body scope lpos] [] pos) (tE X.K W.me W fun e => match closOf (fb (bareE e)) with
        | some c => lamR e (cl.f f [c])
        | none => .stuck) := by
  obtain ⟨hin, hhc, j, rfl, low⟩ := g.lows hl htw
  obtain ⟨cc, P, TB, hcode, hm, hu⟩ := g.mkl hl
  obtain ⟨n1, n2⟩ := g.mod.nm f (.inr (.inl hd))
  obtain ⟨fa, fd, pps, hmf, hk, hb, Fg⟩ := g.calls f hd
  have hno := g.noclo hhc
  have L : LamX.LamS X.env.scope scope := by rw [g.sc]; exact LamX.lamS_by hs
  have hat : cl.at G = cl.f := by unfold Cl.at; rw [hhc, hin]; rfl
  rw [hat] at Fg
  refine ⟨fun pins s σ H Q I ⟨e, F, A, S, post⟩ => ?_⟩
  cases hc : closOf (fb (bareE e)) with
  | none => simp only [hc] at post; exact post.elim
  | some c =>
    simp only [hc] at post
    refine wpAny_Call_Name_kw (ld_glob I (g.glob hg) hmf ?_ n1)
    refine PySem.W.callWith_K (h₀ := X.base) I.ok.mod.kin hk ?_ (by rfl) (by rfl)
    show wpAny _ _ (spliced ((false, eval (.Lambda ps body scope lpos) X.env) :: backTo pos (starEach [] X.env))) _ _ s
    refine Calls.spliced_cons (LamX.lam_make2 I TB hcode hm hu S.ax.2.1.1 (by rw [noPs_eq hps]; rfl) (L.has I.ok) fun fl c' pm ctv H1 s1 I1 eN T1 hf hfn hfr hco => ?_)
    refine Calls.spliced_nil ⟨I1.kIn, ?_⟩
    have st0 : Step A H F A H1 F := ⟨Le.refl F, fun a o q nt _ => eN a o q nt, fun a z => .inl z, fun a z => .inl z, fun me x => ⟨x.1, ⟨T1, fun p hp => eN _ _ (x.2.1.2 p hp) LamX.codeO_ne⟩, x.2.2⟩⟩
    have sub1 : Le F H1 := fun a o q => eN a o (S.sub a o q) (S.ax.1 a o q)
    have ax1 : Ax W.me F H1 := st0.ax _ S.ax
    have S1 : Sta X.K W.me F H1 σ e A := S.past sub1 (Le.refl F) (fun a z o q => eN a o q (S.nt z q)) S.no ax1
    have act : ActOk X.prog X.w X.K X.mg X.base (meL W.me fl c' (X.env.qual ++ "<lambda>") c F) X.A X.stack s1 H1 := lam_act I1 g hps hs hf hfn hfr S1 hno low hbody hc
    have Sl : Sta X.K (meL W.me fl c' (X.env.qual ++ "<lambda>") c F) F H1 [some (.ref fl)] [some c] [] := by
      refine ⟨sub1, ?_, .nil, fun _ z => absurd z (by simp), ax1.1, ⟨T1, fun p hp => ?_⟩, Le.refl F⟩
      · have hr : Rep X.K (meL W.me fl c' (X.env.qual ++ "<lambda>") c F) F H1 c (.ref fl) [] := by
          have hcl : (∃ d, c = .cloV d) ∨ ∃ n ks ds, c = .cloX n ks ds := by
            unfold closOf at hc
            split at hc
            · split at hc
              · cases hc; exact .inl ⟨_, rfl⟩
              · cases hc
            · split at hc
              · cases hc; exact .inr ⟨_, _, _, rfl⟩
              · cases hc
            · cases hc
          rcases hcl with ⟨d, ec⟩ | ⟨n, ks, ds, ec⟩ <;> (subst ec; simp only [Rep]; exact ⟨trivial, trivial, fl, rfl, if_pos trivial⟩)
        simp only [EL]
        exact ⟨.ref fl, [], [], [], rfl, rfl, hr, rfl, rfl⟩
      · rcases List.mem_cons.mp hp with z | z
        · rw [z]; exact hco
        · exact ax1.2.1.2 p z
    refine FnG.call (f := f) (vs := [.ref fl]) (Q := Q) (E := fun cls d H' => W.w cls d σ H') g g.room Fg hb I1 (.cons rfl .nil) ?_ fun _ _ _ h => h
    refine ⟨meL W.me fl c' (X.env.qual ++ "<lambda>") c F, [c], F, [], ⟨g.me.k, fun x a hx hm => by rw [← meL_of x hx]; exact g.me.of x a hx hm⟩, fun _ => ⟨?_, act⟩, Sl, ?_⟩
    · unfold closOf at hc
      split at hc
      · split at hc
        · cases hc; rfl
        · cases hc
      · split at hc
        · cases hc; rfl
        · cases hc
      · cases hc
    cases hcl : cl.f f [c] with
    | stuck => rw [hcl] at post; exact post.elim
    | ok y =>
      obtain ⟨d, outs⟩ := y
      rw [hcl] at post
      simp only [lamR] at post
      by_cases hn : noClo d = true
      · rw [if_pos hn] at post
        intro v H' F' A' as st S' rp nd dj
        have st' : Step [] H1 F as H' F' := st.less fun a z => List.mem_append_left _ z
        obtain ⟨S2, out⟩ := S1.by st' S'.sub
        have post : OkE X.K W.me σ A H F Q (.val d, e) := post
        refine post v H' F' A as (st0.trans (((st'.frame A).more (by simp)).less fun a z => by simp only [List.mem_append] at z ⊢; rcases z with z | z <;> simp [z])) S2 ⟨Rep.swap (fun x hx => (meL_of x hx).symm) _ _ _ hn rp, nd, fun a z => ⟨out a z, (dj a z).2⟩⟩
      · rw [if_neg hn] at post; exact post.elim
    | err n fs outs =>
      rw [hcl] at post
      simp only [lamR] at post
      by_cases hn : (noCloL (fs.map (·.2)) && n != Str.ofString "<lambda>") = true
      · rw [if_pos hn] at post
        rw [Bool.and_eq_true] at hn
        intro cls d H' F' A' x st S'
        have st' : Step [] H1 F [] H' F' := st.less fun a z => absurd z (by simp)
        obtain ⟨S2, _⟩ := S1.by st' S'.sub
        have post : ErrP X.K W σ A H F n fs e := post
        exact post cls d σ H' F' A (XRep.swap (me := meL W.me fl c' (X.env.qual ++ "<lambda>") c F) (me' := W.me) rfl (fun x hx => (meL_of x hx).symm) (by simpa using hn.2) hn.1 x) (st0.trans (((st'.frame A).more (by simp)).less fun a z => by simpa using z)) S2 (Off.refl _ _)
      · rw [if_neg hn] at post; exact post.elim
end
end Ev

set_option Elab.async false
set_option linter.all false
set_option maxRecDepth 100000
set_option maxHeartbeats 8000000
/-! Ev21: any expression. -/
namespace Ev
variable [TabsC]
open PySem L2

section
variable {M : Gb} {cl : Cl} {G : Cn} {k : Nat} {W : WL} {X : Cx} {tg : Expr}
theorem isset_or (x : Expr) : (∃ es j p, x = .Set es j p) ∨ ∀ (env : PySem.Env) (v : Value), foldedSetIterable x env v = pure v := by
  cases x <;> first | exact .inl ⟨_, _, _, rfl⟩ | exact .inr fun _ _ => rfl
theorem evE_set (n : Nat) (es : List Expr) (j : Nat) (p : Pos) (e : En) : evE M cl G n (.Set es j p) e = .stuck := by
  cases n with
  | zero => unfold evE; rfl
  | succ n => unfold evE; rfl
theorem evI_set (n : Nat) (tg : Expr) (es : List Expr) (j : Nat) (p : Pos) (e : En) : evI M cl G n tg (.Set es j p) e = .stuck := by
  cases n with
  | zero => unfold evI; rfl
  | succ n =>
    unfold evI
    cases n with
    | zero => simp only [evW]
    | succ n => simp only [evW, evE_set, R.bind]
theorem sE_blt1 {b : Bl} {f : Str} {p pos : Pos} {a : Expr} {fa : En → R (RV × En)} (g : Good M cl G k W X) (hn : noStar [a] = true) (hg : G.glob f = true) (hf : M.free.contains f = true) (hb : bltOf f = some b) (ha : PE X a (tE X.K W.me W fa)) :
    PE X (.Call (.Name f p) [a] [] pos) (tE X.K W.me W fun e => (fa e).bind fun (v, e1) => match content e1 v with | some d => (ofO (callB b [d])).bind fun r => .ok (.val r, e1) | none => .stuck) := by
  obtain ⟨s1, _⟩ := star_cons (env := X.env) hn
  refine PE.imp (pe_blt g hn hg hf hb (pa_cons ha pa_nil s1)) fun σ H Q ⟨e, F, A, S, post⟩ => ?_
  refine tE_of (T := []) S nilA post fun rv e1 h1 v H1 F1 A1 as1 st1 st01 S1 res1 post => ?_
  cases ca : content e1 rv with
  | none => simp only [ca] at post; exact post.elim
  | some x =>
    simp only [ca] at post
    obtain ⟨a1, q1, _⟩ := ResV.content S1 res1 ca
    cases hd : callB b [x] with
    | none => rw [hd] at post; exact post.elim
    | some d =>
      rw [hd] at post
      have rd : RelD X.K W.me F1 H1 [x] [v] := ⟨v, [], a1, rfl, q1, rfl⟩
      exact ⟨F1, [x], d, S1.sub, rd, hd, OkE.fin (T := as1) (by simpa using st01) S1 post⟩
theorem sE_bltM {x : Expr} {b : Bl} {fa : En → R (List RV × En)} (h : PE X x (tCB (rBlt X.K W.me b) (tA X.K W.me W fa))) :
    PE X x (tE X.K W.me W fun e => (fa e).bind fun (vs, e1) => match contents e1 vs with | some ds => (ofO (callB b ds)).bind fun r => .ok (.val r, e1) | none => .stuck) := by
  refine PE.imp h fun σ H Q ⟨e, F, A, S, post⟩ => ?_
  refine tA_of (T := []) S nilA post fun rvs e1 h1 vs H1 F1 A1 as1 st1 st01 S1 res1 post => ?_
  cases ca : contents e1 rvs with
  | none => simp only [ca] at post; exact post.elim
  | some ds =>
    simp only [ca] at post
    have rd : RelD X.K W.me F1 H1 ds vs := by
      have : ∀ (rvs : List RV) (vs : List V) (as : List Addr) (ds : List D), ResVs X.K W.me F1 H1 σ A1 vs rvs as → contents e1 rvs = some ds → RelD X.K W.me F1 H1 ds vs := by
        intro rvs
        induction rvs with
        | nil => intro vs as ds h hc; simp only [ResVs] at h; simp only [contents, Option.some.injEq] at hc; rw [← hc]; exact h.1
        | cons rv rvs ih =>
          intro vs as ds h hc
          simp only [ResVs] at h
          obtain ⟨v, r, a1, a2, e1', e2', fl, h1, h2, dj⟩ := h
          simp only [contents] at hc
          split at hc
          · rename_i d ds' hd hds
            cases hc
            obtain ⟨b1, q1, _⟩ := ResV.content S1 h1 hd
            exact ⟨v, r, b1, e1', q1, ih r a2 ds' h2 hds⟩
          · cases hc
      exact this rvs vs as1 ds res1 ca
    cases hd : callB b ds with
    | none => rw [hd] at post; exact post.elim
    | some d =>
      rw [hd] at post
      exact ⟨F1, ds, d, S1.sub, rd, hd, OkE.fin (T := as1) (by simpa using st01) S1 post⟩
theorem snd_e {n : Nat} (ih : Snd M cl n) (g : Good M cl G k W X) (x : Expr) : PE X x (tE X.K W.me W (evE M cl G (n + 1) x)) := by
  refine ⟨fun pins s σ H Q I ⟨e, F, A, S, post⟩ => ?_⟩
  unfold evE at post
  split at post
  · rename_i j p _
    exact (sE_const (d := .non) pe_non (fun F H => by simp [Rep]) (fun e => rfl)).run pins s σ H Q I ⟨e, F, A, S, post⟩
  · exact (sE_const (d := .bl _) pe_bl (fun F H => by simp [Rep]) (fun e => rfl)).run pins s σ H Q I ⟨e, F, A, S, post⟩
  · exact (sE_const (d := .int _) pe_int (fun F H => by simp [Rep]) (fun e => rfl)).run pins s σ H Q I ⟨e, F, A, S, post⟩
  · exact (sE_const (d := .str _) pe_str (fun F H => by simp [Rep]) (fun e => rfl)).run pins s σ H Q I ⟨e, F, A, S, post⟩
  · exact (sE_name g _ _).run pins s σ H Q I ⟨e, F, A, S, post⟩
  · rename_i a op b p _
    exact (sE_bin2 (ih.o g a) (ih.o g b) (evO_flat n a) (evO_flat n b)).run pins s σ H Q I ⟨e, F, A, S, post⟩
  · exact (sE_not (ih.e g _)).run pins s σ H Q I ⟨e, F, A, S, post⟩
  · exact (sE_neg (ih.e g _)).run pins s σ H Q I ⟨e, F, A, S, post⟩
  · exact (ih.b g _ _ _).run pins s σ H Q I ⟨e, F, A, S, post⟩
  · exact (sE_if (ih.t g _) (ih.e g _) (ih.e g _)).run pins s σ H Q I ⟨e, F, A, S, post⟩
  · rename_i a op b p _
    by_cases hp : okC op b = true
    · rw [if_pos hp] at post
      exact (sE_cmp g hp (ih.o g a) (ih.o g b) (evO_flat n a)).run pins s σ H Q I ⟨e, F, A, S, post⟩
    · rw [if_neg hp] at post; exact post.elim
  · rename_i a op op2 b c p _
    by_cases hp : (plainOp op && plainOp op2) = true
    · rw [if_pos hp] at post
      exact (sE_chain g hp (ih.o g a) (ih.o g b) (ih.o g c) (evO_flat n a) (evO_flat n b)).run pins s σ H Q I ⟨e, F, A, S, post⟩
    · rw [if_neg hp] at post; exact post.elim
  · exact (sE_tup (ih.a g _)).run pins s σ H Q I ⟨e, F, A, S, post⟩
  · exact (sE_lst (ih.a g _)).run pins s σ H Q I ⟨e, F, A, S, post⟩
  · exact sE_dict0.run pins s σ H Q I ⟨e, F, A, S, post⟩
  · exact (sE_rev (ih.e g _)).run pins s σ H Q I ⟨e, F, A, S, post⟩
  · exact (sE_slice (ih.o g _) (evO_flat n _) (ih.p g _) (ih.p g _)).run pins s σ H Q I ⟨e, F, A, S, post⟩
  · rename_i a b p _ _ _
    by_cases hp : (!plainIx b) = true
    · rw [if_pos hp] at post; exact post.elim
    · rw [if_neg hp] at post
      exact (sE_item g (by simpa using hp) (ih.e g a) (ih.e g b)).run pins s σ H Q I ⟨e, F, A, S, post⟩
  · rename_i elt tg iter ifs scope p _
    dsimp only at post
    by_cases hb : blkC G.N G.sc scope (ownOf G.N scope) = true
    · rw [if_pos hb] at post
      rcases isset_or iter with ⟨es, j, p', eq⟩ | hs
      · subst eq
        rw [evI_set] at post
        exact post.elim
      · exact (sE_lc g hb (ih.i g tg iter) (fun X' g' => ih.e g' elt) (fun X' g' => ih.f g' ifs) (hs X.env)).run pins s σ H Q I ⟨e, F, A, S, post⟩
    · rw [if_neg hb] at post; exact post.elim
  · rename_i f p q _
    split at post
    · rename_i i hs
      by_cases hv : G.vis f = true
      · rw [if_pos hv] at post
        exact (sE_callC g hs hv).run pins s σ H Q I ⟨e, F, A, S, post⟩
      · rw [if_neg hv] at post; exact post.elim
    · exact post.elim
  · rename_i f p ps body scope lp q _
    by_cases hc : (G.lam && cl.two && noPs ps && LamX.lamSB G.sc scope && (slotOf G.N f).isNone && G.glob f && M.defs.contains f) = true
    · rw [if_pos hc] at post
      simp only [Bool.and_eq_true] at hc
      obtain ⟨⟨⟨⟨⟨⟨h1, h0⟩, h2⟩, h3⟩, _⟩, h5⟩, h6⟩ := hc
      exact (sE_lam g h1 h0 h2 h3 h5 h6 (fun g' => ih.e g' body)).run pins s σ H Q I ⟨e, F, A, S, post⟩
    · rw [if_neg hc] at post; exact post.elim
  · rename_i f p a q _ _
    by_cases hn : (!noStar [a]) = true
    · rw [if_pos hn] at post; exact post.elim
    · rw [if_neg hn] at post
      have hn : noStar [a] = true := by simpa using hn
      split at post
      · rename_i i hs
        by_cases hv : G.vis f = true
        · rw [if_pos hv] at post
          exact (sE_callL g hn hs hv (ih.a g _)).run pins s σ H Q I ⟨e, F, A, S, post⟩
        · rw [if_neg hv] at post; exact post.elim
      · by_cases hg : G.glob f = true
        · rw [if_pos hg] at post
          by_cases hd : M.defs.contains f = true
          · rw [if_pos hd] at post
            exact (sE_call g hn hg hd (ih.a g _)).run pins s σ H Q I ⟨e, F, A, S, post⟩
          · rw [if_neg hd] at post
            by_cases hf : M.free.contains f = true
            · rw [if_pos hf] at post
              split at post
              · rename_i b hb
                exact (sE_blt1 g hn hg hf hb (ih.e g a)).run pins s σ H Q I ⟨e, F, A, S, post⟩
              · exact post.elim
            · rw [if_neg hf] at post; exact post.elim
        · rw [if_neg hg] at post; exact post.elim
  · rename_i f p a r q _ _ _
    by_cases hn : (!noStar (a :: r)) = true
    · rw [if_pos hn] at post; exact post.elim
    · rw [if_neg hn] at post
      have hn : noStar (a :: r) = true := by simpa using hn
      split at post
      · rename_i i hs
        by_cases hv : G.vis f = true
        · rw [if_pos hv] at post
          exact (sE_callL g hn hs hv (ih.a g _)).run pins s σ H Q I ⟨e, F, A, S, post⟩
        · rw [if_neg hv] at post; exact post.elim
      · by_cases hg : G.glob f = true
        · rw [if_pos hg] at post
          by_cases hd : M.defs.contains f = true
          · rw [if_pos hd] at post
            exact (sE_call g hn hg hd (ih.a g _)).run pins s σ H Q I ⟨e, F, A, S, post⟩
          · rw [if_neg hd] at post
            by_cases hf : M.free.contains f = true
            · rw [if_pos hf] at post
              split at post
              · rename_i b hb
                exact (sE_bltM (pe_blt g hn hg hf hb (ih.a g _))).run pins s σ H Q I ⟨e, F, A, S, post⟩
              · exact post.elim
            · rw [if_neg hf] at post
              split at post
              · rename_i b hb
                exact (sE_bltM (pe_mod g hn hg hb (ih.a g _))).run pins s σ H Q I ⟨e, F, A, S, post⟩
              · exact post.elim
        · rw [if_neg hg] at post; exact post.elim
  · exact post.elim
theorem snd : ∀ n, Snd M cl n := by
  intro n
  induction n using Nat.strongRecOn with
  | ind n ih =>
    cases n with
    | zero => exact snd0
    | succ n =>
      have ih' := ih n (Nat.lt_succ_self n)
      exact ⟨fun g x => snd_e ih' g x, fun g x => snd_o ih' g x, fun g x => snd_t (fun m h => ih m (Nat.lt_succ_of_le h)) g x, fun g op vs p => snd_ts ih' g op vs p, fun g op vs p => snd_b ih' g op vs p, fun g x => snd_a ih' g x,
        fun g x => snd_p ih' g x, fun g x => snd_f ih' g x, fun g tg x => snd_w ih' g tg x, fun g tg x => snd_i ih' g tg x⟩
end
end Ev

set_option Elab.async false
set_option linter.all false
set_option maxRecDepth 100000
set_option maxHeartbeats 2000000
/-! Ev22: writing into what is owned; readings of statements. -/
namespace Ev
variable [TabsC]
open PySem L2

section
variable {K : PySem.W.Frag} {mg : Me} {F H : Hp}
theorem part_owned {p : List Nat} {j : Nat} {d x : D} (h : part d (j :: p) = some x) : ∃ ds d1, d = .lst .own ds ∧ ds[j]? = some d1 ∧ part d1 p = some x := by
  cases d with
  | lst m ds =>
    cases m with
    | own =>
      simp only [part] at h
      split at h
      · rename_i d1 hd; exact ⟨ds, d1, rfl, hd, h⟩
      · cases h
    | fro => simp [part] at h
    | ext => simp [part] at h
  | _ => simp [part] at h
theorem putPart_snoc {n : D} {xs : List D} {j : Nat} : ∀ {p : List Nat} {d0 d1 : D}, part d0 p = some (.lst .own xs) → putPart d0 (p ++ [j]) n = some d1 → putPart d0 p (.lst .own (xs.set j n)) = some d1 ∧ j < xs.length
  | [], d0, d1, h, e => by
    simp only [part, Option.some.injEq] at h
    subst h
    simp only [List.nil_append, putPart] at e
    split at e
    · rename_i d2 hd
      cases e
      exact ⟨by simp only [putPart], (List.getElem?_eq_some_iff.mp hd).1⟩
    · cases e
  | i :: p, d0, d1, h, e => by
    obtain ⟨ds, d2, e0, hd, hp⟩ := part_owned h
    subst e0
    simp only [List.cons_append, putPart, hd] at e ⊢
    split at e
    · rename_i d3 h3
      obtain ⟨r1, r2⟩ := putPart_snoc hp h3
      rw [r1]
      exact ⟨e, r2⟩
    · cases e
/-- the part at the end of a road is put anew -/
theorem Rep.putP : ∀ {p : List Nat} {d0 x n d1 : D} {v0 o : V} {A0 : List Addr}, Rep K mg F H d0 v0 A0 → part d0 p = some x → PathV H v0 p o → putPart d0 p n = some d1 →
    ∃ pre a1 post, A0 = pre ++ a1 ++ post ∧ Rep K mg F H x o a1 ∧ ∀ (H' : Hp) (a' : List Addr), (∀ a ∈ pre ++ post, ∀ ob, H a = some ob → H' a = some ob) → Rep K mg F H' n o a' → ∃ as', Rep K mg F H' d1 v0 as' ∧ as' = pre ++ a' ++ post
  | [], d0, x, n, d1, v0, o, A0, h, hp, hv, e => by
    simp only [part, Option.some.injEq] at hp
    subst hp
    have hv' : o = v0 := hv
    subst hv'
    have e' : d1 = n := by
      have : putPart d0 [] n = some n := by unfold putPart; rfl
      rw [this] at e; exact (Option.some.inj e).symm
    subst e'
    exact ⟨[], A0, [], by simp, h, fun H' a' _ r => ⟨a', r, by simp⟩⟩
  | j :: p, d0, x, n, d1, v0, o, A0, h, hp, hv, e => by
    obtain ⟨ds, d2, e0, hd, hp2⟩ := part_owned hp
    subst e0
    simp only [putPart, hd] at e
    split at e
    · rename_i d3 h3
      cases e
      simp only [Rep] at h
      obtain ⟨a, vs, bs, ev, ea, ha, hr⟩ := h
      obtain ⟨a', vs', v1, ev', ha', hj, hpv⟩ := hv
      rw [ev] at ev'
      cases ev'
      rw [ha] at ha'
      cases ha'
      obtain ⟨w, pre, b1, post, q1, q2, q3, q4⟩ := ReL.at hr hd
      rw [hj] at q1
      cases q1
      obtain ⟨pre2, c1, post2, r1, r2, r3⟩ := Rep.putP q3 hp2 hpv h3
      refine ⟨a :: pre ++ pre2, c1, post2 ++ post, by rw [ea, q2, r1]; simp [List.append_assoc], r2, fun H' a' kp rn => ?_⟩
      obtain ⟨as', s1, s2⟩ := r3 H' a' (fun y z ob hy => kp y (by
        simp only [List.cons_append, List.mem_cons, List.mem_append] at z ⊢
        rcases z with z | z <;> simp [z]) ob hy) rn
      subst s2
      have s3 := q4 F H' d3 v1 _ (Le.refl F) (fun y z ob hy => kp y (by
        simp only [List.cons_append, List.mem_cons, List.mem_append] at z ⊢
        rcases z with z | z <;> simp [z]) ob hy) s1
      rw [show vs.set j v1 = vs from by
        obtain ⟨hlt, hget⟩ := List.getElem?_eq_some_iff.mp hj
        rw [← hget]; exact List.set_getElem_self hlt] at s3
      refine ⟨a :: (pre ++ (pre2 ++ a' ++ post2) ++ post), ?_, by simp [List.append_assoc]⟩
      simp only [Rep]
      exact ⟨a, vs, _, ev, rfl, kp a (by simp) _ ha, s3⟩
    · cases e
variable {σ : St} {e : En} {A as : List Addr}
/-- an owned list at the end of a road is written -/
theorem Sta.write {s : Nat} {p : List Nat} {d0 d1 : D} {xs ds' : List D} {o : V} {d : D} {v : V} {vs' : List V → List V}
    (S : Sta K mg F H σ e A) (r : Rep K mg F H d v as) (nd : as.Nodup) (dj : ∀ a ∈ as, a ∉ A ∧ F a = none) (hg : getE e s = some d0) (hp : part d0 p = some (.lst .own xs)) (hv : HanV H σ s p o) (he : putPart d0 p (.lst .own ds') = some d1)
    (new : ∀ vs bs, ReL K mg F H xs vs bs → bs.Nodup → (∀ a ∈ as, a ∉ bs) → ∃ bs', ReL K mg F H ds' (vs' vs) bs' ∧ bs'.Nodup ∧ ∀ a ∈ bs', a ∈ as ∨ a ∈ bs) :
    ∃ q vs A', o = .ref q ∧ q ∈ A ∧ H q = some (.lst vs) ∧ vs.length = xs.length ∧ Sta K mg F (upd H q (.lst (vs' vs))) σ (e.set s (some d1)) A' ∧ ∀ a ∈ A', a ∈ as ++ A := by
  obtain ⟨v0, hs, hpv⟩ := hv
  obtain ⟨w, pre, a1, post, q1, q2, q3, q4⟩ := EL.at S.el hg
  rw [hs] at q1
  cases q1
  obtain ⟨pre2, c1, post2, r1, r2, r3⟩ := Rep.putP q3 hp hpv he
  simp only [Rep] at r2
  obtain ⟨q, vs, bs, eo, ec, hq, hr⟩ := r2
  have nA := S.nd
  rw [q2, r1, ec] at nA
  have full : (pre ++ (pre2 ++ (q :: bs) ++ post2) ++ post) = (pre ++ pre2) ++ (q :: bs) ++ (post2 ++ post) := by simp [List.append_assoc]
  rw [full] at nA
  obtain ⟨n1, n2, n3⟩ := List.nodup_append.mp nA
  obtain ⟨m1, m2, m3⟩ := List.nodup_append.mp n1
  have hqA : ∀ y, y ∈ (pre ++ pre2) ++ (q :: bs) ++ (post2 ++ post) → y ∈ A := fun y z => by rw [q2, r1, ec, full]; exact z
  have qnb : q ∉ bs := (List.nodup_cons.mp m2).1
  have nbs : bs.Nodup := (List.nodup_cons.mp m2).2
  have asbs : ∀ a ∈ as, a ∉ bs := fun a z y => (dj a z).1 (hqA a (by simp [y]))
  have asq : ∀ a ∈ as, a ≠ q := fun a z y => (dj a z).1 (hqA a (by rw [y]; simp))
  obtain ⟨bs', b1, b2, b3⟩ := new vs bs hr nbs asbs
  have qnb' : q ∉ bs' := fun z => (b3 q z).elim (fun y => asq q y rfl) qnb
  have kp : ∀ a, a ≠ q → ∀ ob, H a = some ob → upd H q (.lst (vs' vs)) a = some ob := fun a na ob h => by rw [upd_ne na]; exact h
  have kout : ∀ a ∈ (pre ++ pre2) ++ (post2 ++ post), a ≠ q := fun a z y => by
    rcases List.mem_append.mp z with z | z
    · exact m3 a z q (by simp) y
    · exact n3 q (by simp) a z y.symm
  obtain ⟨as2, s1, s2⟩ := r3 (upd H q (.lst (vs' vs))) (q :: bs') (fun a z ob h => kp a (kout a (by
    simp only [List.mem_append] at z ⊢
    rcases z with z | z <;> simp [z])) ob h) (by
    simp only [Rep]
    exact ⟨q, vs' vs, bs', eo, rfl, upd_same, ReL.mono (Le.refl F) _ _ _ (fun a z ob h => kp a (fun y => qnb' (by rw [← y]; exact z)) ob h) b1⟩)
  subst s2
  have s3 := q4 F (upd H q (.lst (vs' vs))) d1 v0 _ (Le.refl F) (fun a z ob h => kp a (kout a (by
    simp only [List.mem_append] at z ⊢
    rcases z with z | z <;> simp [z])) ob h) s1
  rw [set_self hs] at s3
  have full2 : pre ++ (pre2 ++ (q :: bs') ++ post2) ++ post = (pre ++ pre2) ++ (q :: bs') ++ (post2 ++ post) := by simp [List.append_assoc]
  rw [full2] at s3
  have mem : ∀ a ∈ (pre ++ pre2) ++ (q :: bs') ++ (post2 ++ post), a ∈ as ++ A := fun a z => by
    simp only [List.mem_append, List.mem_cons] at z
    rcases z with (z | z | z) | z
    · exact List.mem_append_right _ (hqA a (by simp only [List.mem_append]; exact .inl (.inl z)))
    · exact List.mem_append_right _ (hqA a (by rw [z]; simp))
    · rcases b3 a z with y | y
      · exact List.mem_append_left _ y
      · exact List.mem_append_right _ (hqA a (by simp [y]))
    · exact List.mem_append_right _ (hqA a (by simp only [List.mem_append]; exact .inr z))
  have hqin : q ∈ A := hqA q (by simp)
  refine ⟨q, vs, _, eo, hqin, hq, hr.length.symm, ⟨fun a ob h => kp a (fun y => ?_) ob (S.sub a ob h), s3, ?_, fun a z => ?_, (Step.write (B := A) hqin hq).ax _ S.ax⟩, mem⟩
  · rw [y, S.no q hqin] at h; cases h
  · refine List.nodup_append.mpr ⟨List.nodup_append.mpr ⟨m1, List.nodup_cons.mpr ⟨qnb', b2⟩, fun a z b y eq => ?_⟩, n2, fun a z b y eq => ?_⟩
    · rcases List.mem_cons.mp y with y | y
      · exact m3 a z q (by simp) (eq.trans y)
      · rcases b3 b y with y | y
        · exact (dj b y).1 (hqA b (by rw [← eq]; simp only [List.mem_append]; exact .inl (.inl (by simpa using z))))
        · exact m3 a z b (by simp [y]) eq
    · rcases List.mem_append.mp z with z | z
      · exact n3 a (List.mem_append_left _ z) b y eq
      · rcases List.mem_cons.mp z with z | z
        · exact n3 q (by simp) b y (z.symm.trans eq)
        · rcases b3 a z with w | w
          · exact (dj a w).1 (hqA a (by rw [eq]; simp only [List.mem_append]; exact .inr (by simpa using y)))
          · exact n3 a (by simp [w]) b y eq
  · rcases List.mem_append.mp (mem a z) with y | y
    · exact (dj a y).2
    · exact S.no a y
end

/-! ### statements -/
def OkS (K : PySem.W.Frag) (mg : Me) (G : Cn) (σ : St) (B : List Addr) (H F : Hp) (E : Ends) : Fl → Prop
  | .nx e => ∀ σ' H' F' A', Step B H F A' H' F' → Sta K mg F' H' σ' e A' → Off (LocS G) σ σ' → E.nx σ' H'
  | .bk e => ∀ σ' H' F' A', Step B H F A' H' F' → Sta K mg F' H' σ' e A' → Off (LocS G) σ σ' → E.bk σ' H'
  | .ct e => ∀ σ' H' F' A', Step B H F A' H' F' → Sta K mg F' H' σ' e A' → Off (LocS G) σ σ' → E.ct σ' H'
  | .rt d e => ∀ σ' v H' F' A' as, Step B H F (as ++ A') H' F' → Sta K mg F' H' σ' e A' → Rep K mg F' H' d v as → as.Nodup → (∀ a ∈ as, a ∉ A' ∧ F' a = none) → Off (LocS G) σ σ' → E.rt v H'
def tS (K : PySem.W.Frag) (mg : Me) (G : Cn) (W : WL) (f : En → R Fl) : TS := fun E σ H => ∃ e F A, Sta K mg F H σ e A ∧ PostG K W σ A H F (f e) (OkS K mg G σ A H F E)
theorem psi {X : Cx} {st : Stmt} {t t' : TS} (h : PS X st t) (i : ∀ E σ H, t' E σ H → t E σ H) : PS X st t' := ⟨fun pins s σ H E I q => h.run pins s σ H E I (i E σ H q)⟩
theorem pssi {X : Cx} {st : List Stmt} {t t' : TS} (h : PSs X st t) (i : ∀ E σ H, t' E σ H → t E σ H) : PSs X st t' := ⟨fun pins s σ H E I q => h.run pins s σ H E I (i E σ H q)⟩
section
variable {K : PySem.W.Frag} {mg : Me} {W : WL} {G : Cn} {σ σ1 : St} {H F H1 F1 : Hp} {e : En} {A A1 B : List Addr} {E : Ends}
/-- the promise behind a step -/
theorem OkS.past {fl : Fl} (st : Step B H F A1 H1 F1) (off : Off (LocS G) σ σ1) (h : OkS K mg G σ B H F E fl) : OkS K mg G σ1 A1 H1 F1 E fl := by
  cases fl with
  | nx e => exact fun σ' H' F' A' s S o => h σ' H' F' A' (st.trans s) S (off.trans o)
  | bk e => exact fun σ' H' F' A' s S o => h σ' H' F' A' (st.trans s) S (off.trans o)
  | ct e => exact fun σ' H' F' A' s S o => h σ' H' F' A' (st.trans s) S (off.trans o)
  | rt d e => exact fun σ' v H' F' A' as s S r n dj o => h σ' v H' F' A' as (st.trans s) S r n dj (off.trans o)
theorem tS_past {f : En → R Fl} (st : Step B H F A1 H1 F1) (S : Sta K W.me F1 H1 σ1 e A1) (off : Off (LocS G) σ σ1) (offL : Off W.L σ σ1) (post : PostG K W σ B H F (f e) (OkS K W.me G σ B H F E)) : tS K W.me G W f E σ1 H1 :=
  ⟨e, F1, A1, S, PostG.past st (PostG.off offL post) fun _ h => h.past st off⟩
end
end Ev

set_option Elab.async false
set_option linter.all false
set_option maxRecDepth 100000
set_option maxHeartbeats 4000000
/-! Ev23: statements one by one. -/
namespace Ev
variable [TabsC]
open PySem L2

section
variable {M : Gb} {cl : Cl} {G : Cn} {k : Nat} {W : WL} {X : Cx} {pos : Pos}
theorem disj_of {K : PySem.W.Frag} {mg : Me} {F H : Hp} {σ : St} {A as : List Addr} {v : V} {rv : RV} (h : ResV K mg F H σ A v rv as) : ∀ a ∈ as, a ∉ A := fun a z => by
  cases rv with
  | val d => exact (h.2.2 a z).1
  | han i p => rw [h.1] at z; exact absurd z (by simp)
theorem sS_st {st : Stmt} {f : En → R Fl} (h : ∀ e, f e = .stuck) : PS X st (tS X.K W.me G W f) := ⟨fun pins s σ H E I ⟨e, F, A, S, post⟩ => by
  rw [h e] at post; exact post.elim⟩
theorem sS_pass : PS X (.Pass pos) (tS X.K W.me G W fun e => .ok (.nx e)) := psi ps_pass fun E σ H ⟨e, F, A, S, post⟩ => (show OkS X.K W.me G σ A H F E (.nx e) from post) σ H F A stid S (Off.refl _ _)
theorem sS_break : PS X (.Break pos) (tS X.K W.me G W fun e => .ok (.bk e)) := psi ps_break fun E σ H ⟨e, F, A, S, post⟩ => (show OkS X.K W.me G σ A H F E (.bk e) from post) σ H F A stid S (Off.refl _ _)
theorem sS_cont : PS X (.Continue pos) (tS X.K W.me G W fun e => .ok (.ct e)) := psi ps_continue fun E σ H ⟨e, F, A, S, post⟩ => (show OkS X.K W.me G σ A H F E (.ct e) from post) σ H F A stid S (Off.refl _ _)
theorem sS_retN : PS X (.Return none pos) (tS X.K W.me G W fun e => .ok (.rt .non e)) := psi ps_retN fun E σ H ⟨e, F, A, S, post⟩ =>
  (show OkS X.K W.me G σ A H F E (.rt .non e) from post) σ .non H F A [] (by simpa using stid) S (by simp [Rep]) .nil (fun a z => absurd z (by simp)) (Off.refl _ _)
abbrev fRet (G : Cn) (fe : En → R (RV × En)) : En → R Fl := fun e => (fe e).bind fun (v, e1) => match v with
      | .val d => .ok (.rt d e1)
      | .han i [] => if G.bor.contains i then (take e1 v).bind fun (d, e2) => .ok (.rt d e2) else (match getE e1 i with | some d => .ok (.rt d (e1.set i none)) | none => .stuck)
      | .han i (j :: p) => (take e1 v).bind fun (d, e2) => .ok (.rt d e2)
theorem sS_ret {x : Expr} {fe : En → R (RV × En)} (he : PE X x (tE X.K W.me W fe)) : PS X (.Return (some x) pos) (tS X.K W.me G W (fRet G fe)) := psi (ps_ret he) fun E σ H ⟨e, F, A, S, post⟩ => by
  unfold fRet at post
  refine tE_of (T := []) S nilA post fun rv e1 h1 v H1 F1 A1 as1 st1 st01 S1 res1 post => ?_
  have st01 : Step A H F (as1 ++ A1) H1 F1 := by simpa using st01
  have tk : PostG X.K W σ A H F ((take e1 rv).bind fun (d, e2) => .ok (.rt d e2)) (OkS X.K W.me G σ A H F E) → E.rt v H1 := fun post => by
    cases ht : take e1 rv with
    | err _ _ _ => exact (take_noerr ht).elim
    | stuck => rw [ht] at post; exact post.elim
    | ok y =>
      obtain ⟨d, e2⟩ := y
      rw [ht] at post
      obtain ⟨F2, A2, as2, t1, S2, rp, nd, dj, _, _, _⟩ := take_ok S1 res1 (disj_of res1) ht
      exact (show OkS X.K W.me G σ A H F E (.rt d e2) from post) σ v H1 F2 A2 as2 (st01.trans t1) S2 rp nd dj (Off.refl _ _)
  cases rv with
  | val d => exact (show OkS X.K W.me G σ A H F E (.rt d e1) from post) σ v H1 F1 A1 as1 st01 S1 res1.1 res1.2.1 res1.2.2 (Off.refl _ _)
  | han i p =>
    cases p with
    | cons j p => exact tk post
    | nil =>
      have post : PostG X.K W σ A H F (if G.bor.contains i then (take e1 (.han i [])).bind fun (d, e2) => .ok (.rt d e2) else (match getE e1 i with | some d => .ok (.rt d (e1.set i none)) | none => .stuck)) (OkS X.K W.me G σ A H F E) := post
      by_cases hb : G.bor.contains i = true
      · rw [if_pos hb] at post; exact tk post
      · rw [if_neg hb] at post
        cases hd : getE e1 i with
        | none => rw [hd] at post; exact post.elim
        | some d =>
          rw [hd] at post
          obtain ⟨ea, v0, hv, hp⟩ := res1
          have hp : v = v0 := hp
          subst hp
          obtain ⟨pre, a1, po, q1, _, q3, q4⟩ := EL.drop i S1.el
          obtain ⟨w, hw, rw'⟩ := q3 d hd
          rw [hv] at hw
          cases hw
          have nd := S1.nd
          rw [q1] at nd
          obtain ⟨n1, n2, n3⟩ := nodup_mid nd
          have el := q4 (some v)
          rw [set_self hv] at el
          have sub : ∀ a ∈ pre ++ po, a ∈ A1 := fun a z => by rw [q1]; simp only [List.mem_append] at z ⊢; rcases z with z | z <;> simp [z]
          refine (show OkS X.K W.me G σ A H F E (.rt d (e1.set i none)) from post) σ v H1 F1 (pre ++ po) a1 (st01.less fun x z => ?_) ⟨S1.sub, el, n1, fun a z => S1.no a (sub a z), S1.ax⟩ rw' n2 (fun a z => ⟨n3 a z, S1.no a (by rw [q1]; simp [z])⟩) (Off.refl _ _)
          refine List.mem_append_right _ ?_
          rcases List.mem_append.mp z with z | z
          · rw [q1]; simp [z]
          · exact sub x z
/-- a def is called for what it does -/
theorem sS_expr {x : Expr} {fe : En → R (RV × En)} (he : PE X x (tE X.K W.me W fe)) (hs : swapsWith x none pos.line X.env = pure false) : PS X (.Expr x pos) (tS X.K W.me G W fun e => (fe e).bind fun (_, e1) => .ok (.nx e1)) := psi (ps_expr he hs) fun E σ H ⟨e, F, A, S, post⟩ => by
  refine tE_of (T := []) S nilA post fun rv e1 h1 v H1 F1 A1 as1 st1 st01 S1 res1 post => ?_
  exact (show OkS X.K W.me G σ A H F E (.nx e1) from post) σ H1 F1 A1 (st01.less fun x z => by simp [z]) S1 (Off.refl _ _)
abbrev fApp (fo fa : En → R (RV × En)) : En → R Fl := fun e => (fo e).bind fun (vo, e1) => if !isOL (content e1 vo) || !isHan vo then .stuck else (fa e1).bind fun (va, e2) => (take e2 va).bind fun (d, e3) => match vo, content e3 vo with
          | .han s p, some (.lst .own xs) => if xs.length < sizeLine then (match getE e3 s with
            | some d0 => (match putPart d0 p (.lst .own (xs ++ [d])) with | some d1 => .ok (.nx (e3.set s (some d1))) | none => .stuck)
            | none => .stuck) else .stuck
          | _, _ => .stuck
theorem base_or (o : Expr) (attr : Str) (env : PySem.Env) : (∃ f p pos, o = .Call (.Name f p) [] [] pos) ∨ attributeBase o attr env (eval o env) = eval o env := by
  cases o with
  | Call f as ks p =>
    cases f <;> first
      | exact .inr rfl
      | (cases as <;> first
        | exact .inr rfl
        | (cases ks <;> first
          | exact .inl ⟨_, _, _, rfl⟩
          | exact .inr rfl))
  | _ => exact .inr rfl
/-- xs.append(e) -/
theorem sS_app {o a : Expr} {ap cp pos : Pos} {fo fa : En → R (RV × En)} (ho : PE X o (tE X.K W.me W fo)) (ha : PE X a (tE X.K W.me W fa)) (go : ∀ e v e', fo e = .ok (v, e') → flat v = true) (hb : attributeBase o "append" X.env (eval o X.env) = eval o X.env) (hn : noStar [a] = true) (hl : (ap.endLine == cp.line) = true) :
    PS X (.Expr (.Call (.Attribute o "append" ap) [a] [] cp) pos) (tS X.K W.me G W (fApp fo fa)) := by
  obtain ⟨s1, _⟩ := star_cons (env := X.env) hn
  have he : PE X (.Call (.Attribute o "append" ap) [a] [] cp) (tBM X.K "list" rAppend (tE X.K W.me W fo) (tCons (tE X.K W.me W fa) tNil)) :=
    pe_bm F.plainAttrs_list F.slot_list_append F.type_list_append mt_append ho (pa_cons ha pa_nil s1) hb (by rw [s1]; rfl) hl s1 rfl
  refine psi (ps_expr he rfl) fun E σ H ⟨e, F, A, S, post⟩ => ?_
  unfold fApp at post
  refine tE_of (T := []) S nilA post fun vo e1 h1 v H1 F1 A1 as1 st1 st01 S1 res1 post => ?_
  have st01 : Step A H F (as1 ++ A1) H1 F1 := by simpa using st01
  have fl := go _ _ _ h1
  by_cases hol : (!isOL (content e1 vo) || !isHan vo) = true
  · simp only [hol, if_true] at post; exact post.elim
  simp only [hol] at post
  obtain ⟨hol, hhn⟩ : isOL (content e1 vo) = true ∧ isHan vo = true := by simpa using hol
  -- what is appended to stands in a slot
  cases vo with
  | val d => cases hhn
  | han i p =>
    have hp : p = [] := by simpa [flat] using fl
    subst hp
    have has : as1 = [] := res1.1
    subst has
    have hv := res1.2
    have st01 : Step A H F A1 H1 F1 := by simpa using st01
    -- the argument is reckoned
    have key : tE X.K W.me W fa σ H1 fun y H2 => rAppend v [y] H2 fun _ H3 => E.nx σ H3 := by
      refine tE_of (T := []) S1 (by simpa using st01) post fun va e2 h2 y H2 F2 A2 as2 st2 st02 S2 res2 post => ?_
      have st02 : Step A H F (as2 ++ A2) H2 F2 := by simpa using st02
      cases ht : take e2 va with
      | err _ _ _ => exact (take_noerr ht).elim
      | stuck => simp only [ht, R.bind] at post; exact post.elim
      | ok z =>
        obtain ⟨d, e3⟩ := z
        simp only [ht, R.bind] at post
        obtain ⟨F3, A3, as3, t3, S3, r3, n3, d3, _, _, _⟩ := take_ok S2 res2 (disj_of res2) ht
        have hv3 : HanV H2 σ i [] v := hv
        cases hc : content e3 (.han i []) with
        | none => simp only [hc] at post; exact post.elim
        | some x =>
          simp only [hc] at post
          cases x <;> try exact post.elim
          rename_i m xs
          cases m <;> try exact post.elim
          simp only at post
          by_cases hz : xs.length < sizeLine
          · rw [if_pos hz] at post
            cases hg : getE e3 i with
            | none => rw [hg] at post; exact post.elim
            | some d0 =>
              rw [hg] at post
              simp only [Ev.content, hg, part] at hc
              cases hc
              have hpp : putPart (.lst .own xs) [] (.lst .own (xs ++ [d])) = some (.lst .own (xs ++ [d])) := by unfold putPart; rfl
              simp only [hpp] at post
              obtain ⟨q, vs, A4, eo, qA, hq, hlen, S4, sub4⟩ := S3.write (vs' := fun vs => vs ++ [y]) r3 n3 d3 hg (by unfold part; rfl) hv3 hpp (fun vs bs hr nb dj => ⟨bs ++ as3, rel_append hr (by
                simp only [ReL]; exact ⟨y, [], as3, [], rfl, by simp, r3, rfl, rfl⟩), List.nodup_append.mpr ⟨nb, n3, fun a z b w eq => dj b w (by rw [← eq]; exact z)⟩, fun a z => (List.mem_append.mp z).symm⟩)
              refine ⟨q, vs, y, eo, rfl, hq, by rw [hlen]; exact hz, ?_⟩
              have wr : Step (as3 ++ A3) H2 F3 A4 (upd H2 q (.lst (vs ++ [y]))) F3 := (Step.write (B := as3 ++ A3) (F := F3) (o := .lst (vs ++ [y])) (List.mem_append_right _ qA) hq).less sub4
              exact (show OkS X.K W.me G σ A H F E (.nx _) from post) σ _ F3 A4 ((st02.trans t3).trans wr) S4 (Off.refl _ _)
          · rw [if_neg hz] at post; exact post.elim
    refine ⟨?_, key⟩
    -- its type
    cases hc : content e1 (.han i []) with
    | none => rw [hc] at hol; cases hol
    | some x =>
      rw [hc] at hol
      cases x <;> try cases hol
      rename_i m xs
      have rr : ResV X.K W.me F1 H1 σ A1 v (.han i []) [] := ⟨rfl, hv⟩
      obtain ⟨b1, rp, _⟩ := ResV.content S1 rr hc
      obtain ⟨q, vs, bs, ev, hs, _, _⟩ := rep_lst S1.sub rp
      subst ev
      exact .inl ⟨rfl, vs, hs⟩
/-- xs.extend(ys) -/
abbrev fExt (fo fa : En → R (RV × En)) : En → R Fl := fun e => (fo e).bind fun (vo, e1) => if !isOL (content e1 vo) || !isHan vo then .stuck else (fa e1).bind fun (va, e2) => (take e2 va).bind fun (d, e3) => match vo, content e3 vo, d with
          | .han s p, some (.lst .own xs), .lst m ys => if m != .ext && xs.length + ys.length ≤ sizeLine then (match getE e3 s with
            | some d0 => (match putPart d0 p (.lst .own (xs ++ ys)) with | some d1 => .ok (.nx (e3.set s (some d1))) | none => .stuck)
            | none => .stuck) else .stuck
          | _, _, _ => .stuck
theorem lst_parts {K : PySem.W.Frag} {mg : Me} {F H : Hp} {m : Mk} {ds : List D} {v : V} {as : List Addr} (s : Le F H) (hm : m ≠ .ext) (nd : as.Nodup) (h : Rep K mg F H (.lst m ds) v as) : ∃ a vs bs, v = .ref a ∧ H a = some (.lst vs) ∧ ReL K mg F H ds vs bs ∧ bs.Nodup ∧ ∀ x ∈ bs, x ∈ as := by
  cases m with
  | own =>
    simp only [Rep] at h
    obtain ⟨a, vs, bs, ev, ea, hs, hr⟩ := h
    subst ea
    exact ⟨a, vs, bs, ev, hs, hr, (List.nodup_cons.mp nd).2, fun x z => List.mem_cons_of_mem _ z⟩
  | fro =>
    simp only [Rep] at h
    obtain ⟨_, a, vs, ev, hs, hr⟩ := h
    exact ⟨a, vs, [], ev, s _ _ hs, hr, .nil, fun x z => absurd z (by simp)⟩
  | ext => exact absurd rfl hm
theorem sS_ext {o a : Expr} {ap cp pos : Pos} {fo fa : En → R (RV × En)} (ho : PE X o (tE X.K W.me W fo)) (ha : PE X a (tE X.K W.me W fa)) (go : ∀ e v e', fo e = .ok (v, e') → flat v = true) (hb : attributeBase o "extend" X.env (eval o X.env) = eval o X.env) (hn : noStar [a] = true) (hl : (ap.endLine == cp.line) = true) :
    PS X (.Expr (.Call (.Attribute o "extend" ap) [a] [] cp) pos) (tS X.K W.me G W (fExt fo fa)) := by
  obtain ⟨s1, _⟩ := star_cons (env := X.env) hn
  have he : PE X (.Call (.Attribute o "extend" ap) [a] [] cp) (tBM X.K "list" rExtend (tE X.K W.me W fo) (tCons (tE X.K W.me W fa) tNil)) :=
    pe_bm F.plainAttrs_list F.slot_list_extend F.type_list_extend mt_extend ho (pa_cons ha pa_nil s1) hb (by rw [s1]; rfl) hl s1 rfl
  refine psi (ps_expr he rfl) fun E σ H ⟨e, F, A, S, post⟩ => ?_
  unfold fExt at post
  refine tE_of (T := []) S nilA post fun vo e1 h1 v H1 F1 A1 as1 st1 st01 S1 res1 post => ?_
  have st01 : Step A H F (as1 ++ A1) H1 F1 := by simpa using st01
  have fl := go _ _ _ h1
  by_cases hol : (!isOL (content e1 vo) || !isHan vo) = true
  · simp only [hol, if_true] at post; exact post.elim
  simp only [hol] at post
  obtain ⟨hol, hhn⟩ : isOL (content e1 vo) = true ∧ isHan vo = true := by simpa using hol
  cases vo with
  | val d => cases hhn
  | han i p =>
    have hp : p = [] := by simpa [flat] using fl
    subst hp
    have has : as1 = [] := res1.1
    subst has
    have hv := res1.2
    have st01 : Step A H F A1 H1 F1 := by simpa using st01
    have key : tE X.K W.me W fa σ H1 fun y H2 => rExtend v [y] H2 fun _ H3 => E.nx σ H3 := by
      refine tE_of (T := []) S1 (by simpa using st01) post fun va e2 h2 y H2 F2 A2 as2 st2 st02 S2 res2 post => ?_
      have st02 : Step A H F (as2 ++ A2) H2 F2 := by simpa using st02
      cases ht : take e2 va with
      | err _ _ _ => exact (take_noerr ht).elim
      | stuck => simp only [ht, R.bind] at post; exact post.elim
      | ok z =>
        obtain ⟨d, e3⟩ := z
        simp only [ht, R.bind] at post
        obtain ⟨F3, A3, as3, t3, S3, r3, n3, d3, _, _, _⟩ := take_ok S2 res2 (disj_of res2) ht
        have hv3 : HanV H2 σ i [] v := hv
        cases hc : content e3 (.han i []) with
        | none => simp only [hc] at post; exact post.elim
        | some x =>
          simp only [hc] at post
          cases x <;> try exact post.elim
          rename_i m xs
          cases m <;> try exact post.elim
          cases d <;> try exact post.elim
          rename_i m ys
          simp only at post
          by_cases hz : (m != .ext && decide (xs.length + ys.length ≤ sizeLine)) = true
          · rw [if_pos (by simpa using hz)] at post
            rw [Bool.and_eq_true] at hz
            obtain ⟨hm, hz⟩ := hz
            have hm : m ≠ .ext := by simpa using hm
            have hz : xs.length + ys.length ≤ sizeLine := of_decide_eq_true hz
            cases hg : getE e3 i with
            | none => rw [hg] at post; exact post.elim
            | some d0 =>
              rw [hg] at post
              simp only [Ev.content, hg, part] at hc
              cases hc
              have hpp : putPart (.lst .own xs) [] (.lst .own (xs ++ ys)) = some (.lst .own (xs ++ ys)) := by unfold putPart; rfl
              simp only [hpp] at post
              obtain ⟨b, zs, cs, eb, hB, rB, nB, sB⟩ := lst_parts S3.sub hm n3 r3
              obtain ⟨q, vs, A4, eo, qA, hq, hlen, S4, sub4⟩ := S3.write (vs' := fun vs => vs ++ zs) r3 n3 d3 hg (by unfold part; rfl) hv3 hpp (fun vs bs hr nb dj => ⟨bs ++ cs, rel_append hr rB,
                List.nodup_append.mpr ⟨nb, nB, fun a z b w eq => dj b (sB b w) (by rw [← eq]; exact z)⟩, fun a z => (List.mem_append.mp z).symm.imp (sB a) id⟩)
              refine ⟨q, b, vs, zs, eo, by rw [eb], hq, hB, by rw [hlen, ← rB.length]; exact hz, ?_⟩
              have wr : Step (as3 ++ A3) H2 F3 A4 (upd H2 q (.lst (vs ++ zs))) F3 := (Step.write (B := as3 ++ A3) (F := F3) (o := .lst (vs ++ zs)) (List.mem_append_right _ qA) hq).less sub4
              exact (show OkS X.K W.me G σ A H F E (.nx _) from post) σ _ F3 A4 ((st02.trans t3).trans wr) S4 (Off.refl _ _)
          · rw [if_neg (by simpa using hz)] at post; exact post.elim
    refine ⟨?_, key⟩
    cases hc : content e1 (.han i []) with
    | none => rw [hc] at hol; cases hol
    | some x =>
      rw [hc] at hol
      cases x <;> try cases hol
      rename_i m xs
      have rr : ResV X.K W.me F1 H1 σ A1 v (.han i []) [] := ⟨rfl, hv⟩
      obtain ⟨b1, rp, _⟩ := ResV.content S1 rr hc
      obtain ⟨q, vs, bs, ev, hs, _, _⟩ := rep_lst S1.sub rp
      subst ev
      exact .inl ⟨rfl, vs, hs⟩
end
end Ev

set_option Elab.async false
set_option linter.all false
set_option maxRecDepth 100000
set_option maxHeartbeats 4000000
/-! Ev24: stores. -/
namespace Ev
variable [TabsC]
open PySem L2

section
variable {M : Gb} {cl : Cl} {G : Cn} {k : Nat} {W : WL} {X : Cx} {pos : Pos}
abbrev fAsg (fe : En → R (RV × En)) (fs : D → En → R En) : En → R Fl := fun e => (fe e).bind fun (rv, e1) => (take e1 rv).bind fun (d, e2) => (fs d e2).bind fun e3 => .ok (.nx e3)
/-- a value goes to a target: the readings -/
theorem asg_rd {K : PySem.W.Frag} {fe : En → R (RV × En)} {fs : D → En → R En} {E : Ends} {σ : St} {H : Hp} :
    tS K W.me G W (fAsg fe fs) E σ H → tAsg (tE K W.me W fe) (tG K W.me G W fs) E σ H := fun ⟨e, F, A, S, post⟩ => by
  unfold fAsg at post
  refine tE_of (T := []) S nilA post fun rv e1 h1 v H1 F1 A1 as1 st1 st01 S1 res1 post => ?_
  have st01 : Step A H F (as1 ++ A1) H1 F1 := by simpa using st01
  cases ht : take e1 rv with
  | err _ _ _ => exact (take_noerr ht).elim
  | stuck => simp only [ht, R.bind] at post; exact post.elim
  | ok y =>
    obtain ⟨d, e2⟩ := y
    simp only [ht, R.bind] at post
    obtain ⟨F2, A2, as2, t2, S2, rp, nd, dj, _, _, _⟩ := take_ok S1 res1 (disj_of res1) ht
    refine ⟨e2, F2, A2, d, as2, S2, rp, nd, dj, ?_⟩
    cases hf : fs d e2 with
    | stuck => simp only [hf] at post; exact post.elim
    | err _ _ _ => simp only [hf] at post; exact ErrP.past (st01.trans t2) post
    | ok e3 =>
      simp only [hf] at post
      have post : OkS K W.me G σ A H F E (.nx e3) := post
      exact fun σ' H' F' A' st S' off => post σ' H' F' A' ((st01.trans t2).trans st) S' off
theorem name_rd {K : PySem.W.Frag} {mg : Me} {x : Str} {i : Nat} {v : V} {σ : St} {H : Hp} {Q : St → Hp → Prop} (hs : slotOf G.N x = some i) : tG K mg G W (asgN G x) v σ H Q → gName i v σ H Q := fun ⟨e, F, A, d, as, S, rp, nd, dj, post⟩ => by
  cases hf : asgN G x d e with
  | err _ _ _ => exact (asgN_noerr hf).elim
  | stuck => rw [hf] at post; exact post.elim
  | ok e' =>
    rw [hf] at post
    have post : OkG K mg G σ (as ++ A) H F Q e' := post
    obtain ⟨i', hs', hl, hi, hb, ee⟩ := asgN_some hf
    rw [hs] at hs'
    cases hs'
    subst ee
    obtain ⟨A', S', sub⟩ := S.put hi rp nd dj
    exact post _ H F A' (Step.refl sub) S' (Off.set _ ⟨x, hs, hl, hb⟩)
/-- x = e -/
theorem sS_asg {n : Nat} {x : Str} {px : Pos} {v : Expr} (g : Good M cl G k W X) (hok : okN G x = true) : PS X (.Assign [.Name x px] v pos) (tS X.K W.me G W (fAsg (evE M cl G n v) (asgN G x))) := by
  cases hs : slotOf G.N x with
  | none => simp [okN, hs] at hok
  | some i =>
    by_cases hl : G.loc x = true
    · obtain ⟨l1, l2⟩ := g.loc hl
      have hN : X.N.Nodup := by rw [g.N]; exact g.nd
      have plain : swapsWith v (some (.Name x px)) pos.line X.env = pure false → PS X (.Assign [.Name x px] v pos) (tS X.K W.me G W (fAsg (evE M cl G n v) (asgN G x))) := fun hsw =>
        psi (ps_set hN (g.at_ hs) l1 ((snd n).e g v) hsw l2) fun E σ H q => by
          have q2 := asg_rd q
          obtain ⟨e, F, A, S, post⟩ := q2
          refine ⟨e, F, A, S, PostG.past (Step.refl fun _ z => z) post fun b hb => ?_⟩
          exact fun v H' F' A' as s S r => name_rd hs (hb v H' F' A' as s S r)
      -- a comprehension on the same row as its name is stored inside its block
      by_cases hc : ∃ elt tg iter ifs scope p, v = .ListComp elt [⟨tg, iter, ifs, 0⟩] scope p
      · obtain ⟨elt, tg, iter, ifs, scope, p, ev⟩ := hc
        subst ev
        by_cases ht : (X.env.blockKind == .function && X.env.kindOf x == some .local && px.line == p.line && !(scope.names.any fun (n, k) => n == x && (k == .local || k == .cell))) = true
        · have hsw : swapsWith (.ListComp elt [⟨tg, iter, ifs, 0⟩] scope p) (some (.Name x px)) pos.line X.env = pure true := by
            unfold swapsWith
            simp only [Expr.pos, ht]
          have hyl : X.env.scope.names.lookup x = some .local := by
            simp only [Bool.and_eq_true] at ht
            exact eq_of_beq ht.1.1.2
          cases n with
          | zero =>
            refine sS_st fun e => ?_
            unfold fAsg evE
            rfl
          | succ n =>
            have hE : evE M cl G (n + 1) (.ListComp elt [⟨tg, iter, ifs, 0⟩] scope p) = fun e => if blkC G.N G.sc scope (ownOf G.N scope) then fLc G scope tg (evI M cl G n tg iter) (fun e => evF M cl (G.sub scope) n ifs e) (fun e => evE M cl (G.sub scope) n elt e) e else .stuck := by
              funext e
              conv => lhs; unfold evE
              rfl
            rw [hE]
            by_cases hb : blkC G.N G.sc scope (ownOf G.N scope) = true
            · simp only [hb, if_true]
              rcases isset_or iter with ⟨es, j, p', eq⟩ | hset
              · subst eq
                refine sS_st fun e => ?_
                unfold fAsg fLc
                simp only [evI_set, R.bind]
              · exact psi (sS_lc g hb (g.at_ hs) hyl hsw ((snd n).i g tg iter) (fun X' g' => (snd n).e g' elt) (fun X' g' => (snd n).f g' ifs) (hset X.env)) fun E σ H q => by
                  have q2 := asg_rd q
                  obtain ⟨e, F, A, S, post⟩ := q2
                  refine ⟨e, F, A, S, PostG.past (Step.refl fun _ z => z) post fun b hb => ?_⟩
                  exact fun v H' F' A' as s S r => name_rd hs (hb v H' F' A' as s S r)
            · refine sS_st fun e => ?_
              unfold fAsg
              simp only [if_neg hb, R.bind]
        · refine plain ?_
          unfold swapsWith
          simp only [Expr.pos, ht]
      · -- no comprehension that the evaluator knows
        cases v <;> first
          | exact plain rfl
          | skip
        · rename_i elt gs scope p
          refine sS_st fun e => ?_
          unfold fAsg
          have hst : evE M cl G n (.ListComp elt gs scope p) e = .stuck := by
            cases n with
            | zero => unfold evE; rfl
            | succ n =>
              unfold evE
              split <;> first | rfl | skip
              all_goals (exfalso; apply hc; first | exact ⟨_, _, _, _, _, _, rfl⟩ | (rename_i hh; cases hh <;> exact ⟨_, _, _, _, _, _, rfl⟩))
          rw [hst]
          rfl
        all_goals
          refine sS_st fun e => ?_
          unfold fAsg
          cases n with
          | zero => unfold evE; rfl
          | succ n => unfold evE; rfl
    · simp [okN, hs, hl] at hok
end
end Ev

set_option Elab.async false
set_option linter.all false
set_option maxRecDepth 100000
set_option maxHeartbeats 4000000
/-! Ev25: items and several targets. -/
namespace Ev
variable [TabsC]
open PySem L2

section
variable {M : Gb} {cl : Cl} {G : Cn} {k : Nat} {W : WL} {X : Cx} {pos : Pos}
theorem sG_st {t : Expr} {f : D → En → R En} (h : ∀ d e, f d e = .stuck) : PG X t (tG X.K W.me G W f) := ⟨fun pins s σ H v u Q I r ⟨e, F, A, d, as, S, rp, nd, dj, post⟩ => by
  rw [h d e] at post; exact post.elim⟩
theorem asgI_ok {n : Nat} {a b : Expr} {d : D} {e e' : En} (h : asgI M cl G n a b d e = .ok e') : ∃ s p e1 xs i j d0 d1, evE M cl G n a e = .ok (.han s p, e1) ∧ content e1 (.han s p) = some (.lst .own xs) ∧ intE G 8 b e1 = some i ∧ item xs i = some j ∧ getE e1 s = some d0 ∧ putPart d0 (p ++ [j]) d = some d1 ∧ e' = e1.set s (some d1) := by
  unfold asgI at h
  by_cases hpl : (!plainIx b) = true
  · rw [if_pos hpl] at h; cases h
  rw [if_neg hpl] at h
  cases h1 : evE M cl G n a e with
  | stuck => rw [h1] at h; cases h
  | err _ _ _ => rw [h1] at h; cases h
  | ok y =>
    obtain ⟨va, e1⟩ := y
    rw [h1] at h
    simp only [R.bind] at h
    split at h
    · rename_i s p xs i hi hc
      split at h
      · rename_i j d0 hj hg
        split at h
        · rename_i d1 hp
          cases h
          exact ⟨s, p, e1, xs, i, j, d0, d1, rfl, hc, hi, hj, hg, hp, rfl⟩
        · cases h
      · cases h
    · cases h
theorem asgI_err {n : Nat} {a b : Expr} {d : D} {e : En} {c : Str} {fs : List (Str × D)} {e1 : En} (h : asgI M cl G n a b d e = .err c fs e1) : evE M cl G n a e = .err c fs e1 := by
  unfold asgI at h
  by_cases hpl : (!plainIx b) = true
  · rw [if_pos hpl] at h; cases h
  rw [if_neg hpl] at h
  cases h1 : evE M cl G n a e with
  | stuck => rw [h1] at h; cases h
  | err _ _ _ => rw [h1] at h; cases h; rfl
  | ok y =>
    rw [h1] at h
    simp only [R.bind] at h
    split at h
    · split at h
      · split at h <;> cases h
      · cases h
    · cases h
theorem item_ix {xs : List D} {i : Int} {j : Nat} (h : item xs i = some j) : ixN xs.length i = some j := by
  unfold item at h
  split at h
  · rename_i q; cases h; exact q
  · cases h
/-- xs[i] = .. -/
theorem sG_sub {n : Nat} {a b : Expr} (g : Good M cl G k W X) : PG X (.Subscript a b pos) (tG X.K W.me G W (asgI M cl G n a b)) := by
  by_cases hsl : ∃ lo hi st p, b = .Slice lo hi st p
  · obtain ⟨lo, hi, st, p, eb⟩ := hsl
    subst eb
    exact sG_st fun d e => by unfold asgI; rfl
  · have ha : ∀ v, assign (.Subscript a b pos) X.env v = (do
      let ov ← holding [v] (eval a X.env)
      let iv ← holding [v, ov] (eval b X.env)
      standAt pos
      holding [v, ov, iv] (setItem ov iv v)
      release [v, ov, iv] []) := fun v => by
      cases b <;> first | rfl | exact absurd ⟨_, _, _, _, rfl⟩ hsl
    refine ⟨fun pins s σ H v u Q I r ⟨e, F, A, d, as, S, rp, nd, dj, post⟩ => (pg_sub ((snd n).e g a) (sI_ok g 8 b) set_list ha).run pins s σ H v u Q I r ?_⟩
    cases hf : asgI M cl G n a b d e with
    | stuck => rw [hf] at post; exact post.elim
    | err _ _ _ =>
      rw [hf] at post
      refine ⟨e, F, A, S, ?_⟩
      rw [asgI_err hf]
      exact ErrP.past (Step.refl fun _ z => List.mem_append_right _ z) post
    | ok e' =>
      rw [hf] at post
      have post : OkG X.K W.me G σ (as ++ A) H F Q e' := post
      obtain ⟨sl, p, e1, xs, i, j, d0, d1, h1, h2, h3, h4, h5, h6, h7⟩ := asgI_ok hf
      subst h7
      refine ⟨e, F, A, S, ?_⟩
      rw [h1]
      show OkE X.K W.me σ A H F _ (.han sl p, e1)
      intro o H1 F1 A1 as1 st1 S1 res1
      have has : as1 = [] := res1.1
      subst has
      have st1 : Step A H F ([] ++ A1) H1 F1 := st1
      have rd : ResV X.K W.me F H σ A v (.val d) as := ⟨rp, nd, dj⟩
      obtain ⟨rd1, _⟩ := rd.past rfl st1
      have hv := res1.2
      simp only [Ev.content, h5] at h2
      obtain ⟨hput, hj⟩ := putPart_snoc h2 h6
      refine ⟨e1, F1, A1, i, S1, h3, ?_⟩
      obtain ⟨q, vs, A2, eo, qA, hq, hlen, S2, sub2⟩ := S1.write (vs' := fun vs => vs.set j v) rd1.1 rd1.2.1 rd1.2.2 h5 h2 hv hput (fun vs bs hr nb dj2 => by
        obtain ⟨w, pre, b1, po, q1, q2, q3, q4⟩ := ReL.at hr (List.getElem?_eq_getElem hj)
        refine ⟨pre ++ as ++ po, q4 F1 H1 d v as (Le.refl _) (fun _ _ _ z => z) rd1.1, ?_, fun y z => ?_⟩
        · rw [q2] at nb
          obtain ⟨n1, n2, n3⟩ := List.nodup_append.mp nb
          obtain ⟨m1, m2, m3⟩ := List.nodup_append.mp n1
          refine List.nodup_append.mpr ⟨List.nodup_append.mpr ⟨m1, nd, fun y z w y2 eq => dj2 w y2 (by rw [q2, ← eq]; simp [z])⟩, n2, fun y z w y2 eq => ?_⟩
          rcases List.mem_append.mp z with z | z
          · exact n3 y (List.mem_append_left _ z) w y2 eq
          · exact dj2 y z (by rw [q2, eq]; simp [y2])
        · simp only [List.mem_append] at z
          rcases z with (z | z) | z
          · exact .inr (by rw [q2]; simp [z])
          · exact .inl z
          · exact .inr (by rw [q2]; simp [z]))
      refine ⟨q, vs, i, j, eo, rfl, hq, by rw [hlen]; exact item_ix h4, ?_⟩
      have wr : Step (as ++ A1) H1 F1 A2 (upd H1 q (.lst (vs.set j v))) F1 := (Step.write (B := as ++ A1) (F := F1) (o := .lst (vs.set j v)) (List.mem_append_right _ qA) hq).less sub2
      exact post σ _ F1 A2 ((st1.frame as).trans (by simpa using wr)) S2 (Off.refl _ _)
/-- one target and the rest -/
theorem pgs_step (g : Good M cl G k W X) {t : Expr} {ts : List Expr} {f : D → En → R En} {fr : List D → En → R En} {fa : List D → En → R En} (h1 : PG X t (tG X.K W.me G W f)) (h2 : PGs X ts (tGs X.K W.me G W fr)) (hs : (assignEach (t :: ts) X.env).map (·.2) = assign t X.env :: (assignEach ts X.env).map (·.2))
    (hf : ∀ d ds e, fa (d :: ds) e = (f d e).bind fun e1 => fr ds e1) (hn : ∀ e, fa [] e = .stuck) : PGs X (t :: ts) (tGs X.K W.me G W fa) := by
  refine ⟨fun pins s σ H vs us Q I r ⟨e, F, A, ds, as, S, rp, nd, dj, post⟩ => ?_⟩
  cases ds with
  | nil =>
    rw [hn e] at post; exact post.elim
  | cons d ds =>
    rw [hf] at post
    simp only [ReL] at rp
    obtain ⟨v, vr, a1, a2, ev, ea, r1, r2⟩ := rp
    subst ev; subst ea
    obtain ⟨n1, n2, n3⟩ := List.nodup_append.mp nd
    refine (pgs_cons h1 h2 hs).run pins s σ H _ us Q I r ⟨v, vr, rfl, e, F, A, d, a1, S, r1, n1, fun a z => dj a (List.mem_append_left _ z), ?_⟩
    cases q : f d e with
    | err _ _ _ =>
      rw [q] at post
      refine ErrP.past (Step.refl fun x z => ?_) post
      simp only [List.mem_append] at z ⊢
      rcases z with z | z <;> simp [z]
    | stuck => rw [q] at post; exact post.elim
    | ok e2 =>
      rw [q] at post
      intro σ' H' F' A' st S' off
      have st2 := st.frame a2
      have dead : ∀ a ∈ a2, a ∉ a1 ++ A := fun a z y => by
        rcases List.mem_append.mp y with y | y
        · exact n3 a y a z rfl
        · exact (dj a (List.mem_append_right _ z)).1 y
      have r2' : ReL X.K W.me F' H' ds vr a2 := ReL.mono st.le ds vr a2 (fun a z o ho => st.keep a o ho (ReL.nt ds vr a2 r2 a z o ho) (dead a z)) r2
      have lv := ReL.live ds vr a2 r2
      have out : ∀ a ∈ a2, a ∉ A' ∧ F' a = none := fun a z => by
        obtain ⟨o, ho⟩ := lv a z
        refine ⟨fun y => ?_, ?_⟩
        · rcases st.own a y with w | w
          · exact dead a z w
          · exact w.not ho (ReL.nt ds vr a2 r2 a z o ho)
        · cases q2 : F' a with
          | none => rfl
          | some o' =>
            rcases st.fr a (by rw [q2]; simp) with w | w | w
            · exact absurd (dj a (List.mem_append_right _ z)).2 w
            · exact absurd w (dead a z)
            · exact w.not ho (ReL.nt ds vr a2 r2 a z o ho)
      have st3 : Step (a1 ++ a2 ++ A) H F (a2 ++ A') H' F' := st2.more fun y z => by
        simp only [List.mem_append] at z ⊢
        rcases z with z | z | z <;> simp [z]
      have post : PostG X.K W σ' (a1 ++ a2 ++ A) H F (fr ds e2) (OkG X.K W.me G σ (a1 ++ a2 ++ A) H F Q) := PostG.off (g.off off) post
      exact ⟨e2, F', A', ds, a2, S', r2', n2, out, PostG.past st3 post fun b hb σ2 H2 F2 A2 st4 S2 off2 => hb σ2 H2 F2 A2 (st3.trans st4) S2 (off.trans off2)⟩
theorem asgEach_name (n : Nat) (x : Str) (p : Pos) (r : List Expr) (d : D) (ds : List D) (e : En) : asgEach M cl G n (.Name x p :: r) (d :: ds) e = (asgN G x d e).bind fun e1 => asgEach M cl G n r ds e1 := by
  conv => lhs; unfold asgEach
theorem asgEach_sub (n : Nat) (a b : Expr) (p : Pos) (r : List Expr) (d : D) (ds : List D) (e : En) : asgEach M cl G n (.Subscript a b p :: r) (d :: ds) e = (asgI M cl G n a b d e).bind fun e1 => asgEach M cl G n r ds e1 := by
  conv => lhs; unfold asgEach
theorem asgEach_nil (n : Nat) (t : Expr) (r : List Expr) (e : En) : asgEach M cl G n (t :: r) [] e = .stuck := by
  cases t <;> simp only [asgEach]
theorem tg_each {env : PySem.Env} : ∀ {ts : List Expr}, tgOk ts = true → (assignEach ts env).length = ts.length ∧ (assignEach ts env).findIdx? (·.1) = none
  | [], _ => ⟨rfl, rfl⟩
  | t :: r, h => by
    have hr : tgOk r = true ∧ assignEach (t :: r) env = (false, assign t env) :: assignEach r env := by
      cases t <;> first | exact ⟨h, rfl⟩ | (simp [tgOk] at h)
    obtain ⟨i1, i2⟩ := tg_each (env := env) hr.1
    rw [hr.2]
    exact ⟨by simp [i1], by rw [List.findIdx?_cons]; simp [i2]⟩
theorem sGsE {n : Nat} (g : Good M cl G k W X) : ∀ {ts : List Expr}, tgOk ts = true → PGs X ts (tGs X.K W.me G W (asgEach M cl G n ts))
  | [], _ => ⟨fun pins s σ H vs us Q I r ⟨e, F, A, ds, as, S, rp, nd, dj, post⟩ => by
      cases ds with
      | cons _ _ => simp only [asgEach] at post; exact post.elim
      | nil =>
        simp only [asgEach] at post
        have post : OkG X.K W.me G σ (as ++ A) H F Q e := post
        simp only [ReL] at rp
        exact pgs_nil.run pins s σ H vs us Q I r ⟨rp.1, post σ H F A (Step.refl fun _ z => List.mem_append_right _ z) S (Off.refl _ _)⟩⟩
  | t :: ts, h => by
    cases t <;> first | (simp [tgOk] at h; done) | skip
    · exact pgs_step g (sG_sub g) (sGsE g (ts := ts) h) rfl (fun d ds e => asgEach_sub n _ _ _ _ _ _ _) (fun e => asgEach_nil n _ _ e)
    · exact pgs_step g (sG_name g _ _) (sGsE g (ts := ts) h) rfl (fun d ds e => asgEach_name n _ _ _ _ _ _) (fun e => asgEach_nil n _ _ e)
/-- xs[i] = e -/
theorem sS_asgI {n : Nat} {a b : Expr} {sp : Pos} {v : Expr} (g : Good M cl G k W X) : PS X (.Assign [.Subscript a b sp] v pos) (tS X.K W.me G W (fAsg (evE M cl G n v) (asgI M cl G n a b))) :=
  psi (ps_asg ((snd n).e g v) (sG_sub (n := n) (a := a) (b := b) (pos := sp) g) (by cases v <;> rfl) (by cases v <;> rfl) rfl) fun E σ H q => asg_rd q
/-- a, b = e, e no written tuple -/
theorem sS_tupV {n : Nat} {ts : List Expr} {j : Nat} {tp : Pos} {v : Expr} (g : Good M cl G k W X) (hv : ∀ vs j p, v ≠ .Tuple vs j p) : PS X (.Assign [.Tuple ts j tp] v pos) (tS X.K W.me G W (asgTup M cl G n ts v)) := by
  by_cases ht : tgOk ts = true
  · obtain ⟨w1, w2⟩ := tg_each (env := X.env) ht
    refine psi (ps_asg ((snd n).e g v) (pg_tup g.calm (sGsE (n := n) g ht) rfl w2) (by cases v <;> rfl) (by cases v <;> first | rfl | exact absurd rfl (hv _ _ _)) rfl) fun E σ H ⟨e, F, A, S, post⟩ => ?_
    unfold asgTup at post
    rw [if_neg (by simpa using ht)] at post
    refine tE_of (T := []) S nilA post fun rv e1 h1 y H1 F1 A1 as1 st1 st01 S1 res1 post => ?_
    have st01 : Step A H F (as1 ++ A1) H1 F1 := by simpa using st01
    cases htk : takeF e1 rv with
    | err _ _ _ => exact (takeF_noerr htk).elim
    | stuck => simp only [htk, R.bind] at post; exact post.elim
    | ok z =>
      obtain ⟨d, e2⟩ := z
      simp only [htk, R.bind] at post
      obtain ⟨F2, A2, s2, S2, r2⟩ := takeF_ok S1 res1 htk
      cases d <;> first | exact post.elim | skip
      rename_i ds
      simp only at post
      by_cases hl : (ts.length == ds.length) = true
      · rw [if_pos hl] at post
        obtain ⟨p, vs, ev, hs, hr⟩ := rep_tup r2
        refine ⟨p, vs, ev, S2.sub.seqT hs, by rw [w1, ← hr.length]; exact (eq_of_beq hl).symm, e2, F2, A2, ds, [], S2, hr, .nil, fun a z => absurd z (by simp), ?_⟩
        cases hf : asgEach M cl G n ts ds e2 with
        | stuck => rw [hf] at post; exact post.elim
        | err _ _ _ => rw [hf] at post; exact ErrP.past (st01.trans s2) post
        | ok e3 =>
          rw [hf] at post
          have post : OkS X.K W.me G σ A H F E (.nx e3) := post
          exact fun σ' H' F' A' st S' off => post σ' H' F' A' ((st01.trans s2).trans (by simpa using st)) S' off
      · rw [if_neg hl] at post; exact post.elim
  · refine sS_st fun e => ?_
    unfold asgTup
    rw [if_pos (by simpa using ht)]
end
end Ev

set_option Elab.async false
set_option linter.all false
set_option maxRecDepth 100000
set_option maxHeartbeats 4000000
/-! Ev26: a, b = x, y; op=; branches; loops. -/
namespace Ev
variable [TabsC]
open PySem L2

section
variable {M : Gb} {cl : Cl} {G : Cn} {k : Nat} {W : WL} {X : Cx} {pos : Pos}
/-! ### the names of a swap -/
def fNm (G : Cn) (line : Nat) : Expr → Option Str := fun
    | .Name id pos => if G.kind id == some .local && pos.line == line then some id else none
    | _ => none
theorem namesOn_some {line : Nat} : ∀ {ts : List Expr} {xs : List Str}, namesOn G line ts = some xs → ts.filterMap (fNm G line) = xs ∧ xs.length = ts.length
  | [], xs, h => by simp only [namesOn, Option.some.injEq] at h; subst h; exact ⟨rfl, rfl⟩
  | t :: r, xs, h => by
    cases t <;> first | (simp [namesOn] at h; done) | skip
    rename_i x p
    simp only [namesOn] at h
    split at h
    · rename_i hc
      split at h
      · rename_i ys hy
        cases h
        obtain ⟨i1, i2⟩ := namesOn_some hy
        refine ⟨?_, by simp [i2]⟩
        rw [List.filterMap_cons]
        simp only [fNm, hc, if_true, i1]
      · cases h
    · cases h
theorem fm_le {line : Nat} : ∀ (ts : List Expr), (ts.filterMap (fNm G line)).length ≤ ts.length := fun ts => List.length_filterMap_le _ _
theorem namesOn_none {line : Nat} : ∀ {ts : List Expr}, namesOn G line ts = none → (ts.filterMap (fNm G line)).length ≠ ts.length
  | [], h => by simp [namesOn] at h
  | t :: r, h => by
    have le := fm_le (G := G) (line := line) r
    rw [List.filterMap_cons]
    cases q : fNm G line t with
    | none => simp only [List.length_cons]; omega
    | some x =>
      simp only [List.length_cons]
      cases t <;> first | (simp [fNm] at q; done) | skip
      rename_i y p
      simp only [fNm] at q
      split at q
      · rename_i hc
        simp only [namesOn, hc, if_true] at h
        split at h
        · cases h
        · rename_i hn
          have := namesOn_none hn
          omega
      · cases q
theorem head_line (ts : List Expr) : (ts.head?.map (·.pos.line)).getD 0 = headLine ts := by cases ts <;> rfl
def fNmX (env : PySem.Env) (line : Nat) : Expr → Option Str := fun
    | .Name id pos => if env.kindOf id == some .local && pos.line == line then some id else none
    | _ => none
def isStar : Expr → Bool
  | .Starred .. => true
  | _ => false
theorem sw_eq {ts vs : List Expr} {j j2 : Nat} {p p2 : Pos} {env : PySem.Env} : swappedStores [.Tuple ts j p] (.Tuple vs j2 p2) env =
    (if !(ts.length == 2 || ts.length == 3) || vs.length != ts.length || env.blockKind != .function then pure none else
      if vs.any isStar then pure none else
      if (ts.filterMap (fNmX env ((ts.head?.map (·.pos.line)).getD 0))).length != ts.length || (ts.filterMap (fNmX env ((ts.head?.map (·.pos.line)).getD 0))).eraseDups.length != (ts.filterMap (fNmX env ((ts.head?.map (·.pos.line)).getD 0))).length then pure none else
      if vs.all (foldedForSure 8) then pure none else do
      if vs.all (constantsAlone 8) then unsupported "assign.tuple-of-constant-expressions:order-of-the-stores"
      return some (ts.filterMap (fNmX env ((ts.head?.map (·.pos.line)).getD 0)))) := by
  rfl
theorem noStar_any {vs : List Expr} : vs.any isStar = !noStar vs := by
  induction vs with
  | nil => rfl
  | cons v r ih =>
    cases v <;> first
      | rfl
      | (rw [List.any_cons, ih]; rfl)
theorem fNm_eq (g : Good M cl G k W X) (l : Nat) : fNmX X.env l = fNm G l := by
  funext t
  cases t <;> first | rfl | (simp only [fNmX, fNm, g.kind])
theorem bk_same : (ScopeKind.function != ScopeKind.function) = false := by decide
theorem swapped_ok {ts vs : List Expr} {j j2 : Nat} {p p2 : Pos} (g : Good M cl G k W X) (hk : X.env.scope.kind = .function) :
    (swap G ts vs = .no → swappedStores [.Tuple ts j p] (.Tuple vs j2 p2) X.env = pure none) ∧ (∀ xs, swap G ts vs = .yes xs → swappedStores [.Tuple ts j p] (.Tuple vs j2 p2) X.env = pure (some xs)) := by
  have hb : X.env.blockKind = .function := by unfold Env.blockKind; rw [hk]; rfl
  rw [sw_eq, fNm_eq g, head_line, hb, noStar_any, bk_same, Bool.or_false]
  refine ⟨fun h => ?_, fun xs h => ?_⟩ <;> unfold swap at h
  · split at h
    · rename_i h1; rw [if_pos h1]
    · rename_i h1
      rw [if_neg h1]
      split at h
      · cases h
      · rename_i h2
        rw [if_neg h2]
        split at h
        · rename_i ys hn
          obtain ⟨i1, i2⟩ := namesOn_some hn
          rw [i1, i2]
          split at h
          · cases h
          · rename_i h3
            rw [i2] at h3
            have h3' : ¬ (ts.length != ts.length || ys.eraseDups.length != ts.length) = true := by simpa using h3
            rw [if_neg h3']
            split at h
            · rename_i h4; rw [if_pos h4]
            · split at h <;> cases h
        · rename_i hn
          have h3 := namesOn_none hn
          have h3' : ((ts.filterMap (fNm G (headLine ts))).length != ts.length || ((ts.filterMap (fNm G (headLine ts))).eraseDups.length != (ts.filterMap (fNm G (headLine ts))).length)) = true := by
            rw [bne_iff_ne.mpr h3]; rfl
          rw [if_pos h3']
  · split at h
    · cases h
    · rename_i h1
      rw [if_neg h1]
      split at h
      · cases h
      · rename_i h2
        rw [if_neg h2]
        split at h
        · rename_i ys hn
          obtain ⟨i1, i2⟩ := namesOn_some hn
          rw [i1, i2]
          split at h
          · cases h
          · rename_i h3
            rw [i2] at h3
            have h3' : ¬ (ts.length != ts.length || ys.eraseDups.length != ts.length) = true := by simpa using h3
            rw [if_neg h3']
            split at h
            · cases h
            · rename_i h4
              rw [if_neg h4]
              split at h
              · cases h
              · rename_i h5
                cases h
                rw [if_neg h5]
        · cases h
end
end Ev

set_option Elab.async false
set_option linter.all false
set_option maxRecDepth 100000
set_option maxHeartbeats 4000000
/-! Ev27: a, b = x, y; op=; branches; loops. -/
namespace Ev
variable [TabsC]
open PySem L2

section
variable {M : Gb} {cl : Cl} {G : Cn} {k : Nat} {W : WL} {X : Cx} {pos : Pos}
def setAll (G : Cn) : List Str → List V → St → St
  | x :: r, v :: vs, σ => setAll G r vs (σ.set ((slotOf G.N x).getD 0) (some v))
  | _, _, σ => σ
theorem asgXs_ok {K : PySem.W.Frag} {mg : Me} {F H : Hp} : ∀ {xs : List Str} {ds : List D} {vs : List V} {e e' : En} {σ : St} {A as : List Addr}, Sta K mg F H σ e A → ReL K mg F H ds vs as → as.Nodup → (∀ a ∈ as, a ∉ A ∧ F a = none) → asgXs G xs ds e = .ok e' →
    ∃ A', Sta K mg F H (setAll G xs vs σ) e' A' ∧ (∀ a ∈ A', a ∈ as ++ A) ∧ Off (LocS G) σ (setAll G xs vs σ) ∧ vs.length = xs.length
  | [], [], vs, e, e', σ, A, as, S, r, nd, dj, h => by
    simp only [asgXs, R.ok.injEq] at h
    subst h
    simp only [ReL] at r
    rw [r.1]
    exact ⟨A, S, fun a z => List.mem_append_right _ z, Off.refl _ _, rfl⟩
  | [], _ :: _, vs, e, e', σ, A, as, S, r, nd, dj, h => by simp only [asgXs] at h; cases h
  | _ :: _, [], vs, e, e', σ, A, as, S, r, nd, dj, h => by simp only [asgXs] at h; cases h
  | x :: xs, d :: ds, vs, e, e', σ, A, as, S, r, nd, dj, h => by
    simp only [asgXs] at h
    cases q : asgN G x d e with
    | err _ _ _ => rw [q] at h; cases h
    | stuck => rw [q] at h; cases h
    | ok e1 =>
      rw [q] at h
      obtain ⟨i, hs, hl, hi, hb, ee⟩ := asgN_some q
      subst ee
      simp only [ReL] at r
      obtain ⟨v, vr, a1, a2, ev, ea, r1, r2⟩ := r
      subst ev; subst ea
      obtain ⟨n1, n2, n3⟩ := List.nodup_append.mp nd
      obtain ⟨A1, S1, sub1⟩ := S.put hi r1 n1 fun a z => dj a (List.mem_append_left _ z)
      obtain ⟨A2, S2, sub2, off, hl2⟩ := asgXs_ok (xs := xs) (ds := ds) (σ := σ.set i (some v)) S1 r2 n2 (fun a z => ⟨fun y => by
        rcases List.mem_append.mp (sub1 a y) with w | w
        · exact n3 a w a z rfl
        · exact (dj a (List.mem_append_right _ z)).1 w, (dj a (List.mem_append_right _ z)).2⟩) h
      have hset : setAll G (x :: xs) (v :: vr) σ = setAll G xs vr (σ.set i (some v)) := by simp only [setAll, hs, Option.getD_some]
      rw [hset]
      refine ⟨A2, S2, fun a z => ?_, (Off.set _ ⟨x, hs, hl, hb⟩).trans off, by simp [hl2]⟩
      rcases List.mem_append.mp (sub2 a z) with w | w
      · simp [w]
      · rcases List.mem_append.mp (sub1 a w) with w | w <;> simp [w]
theorem asgXs_noerr : ∀ {xs : List Str} {ds : List D} {e e1 : En} {c : Str} {fs : List (Str × D)}, asgXs G xs ds e = .err c fs e1 → False
  | [], [], e, e1, c, fs, h => by simp only [asgXs] at h; cases h
  | [], _ :: _, e, e1, c, fs, h => by simp only [asgXs] at h; cases h
  | _ :: _, [], e, e1, c, fs, h => by simp only [asgXs] at h; cases h
  | x :: xs, d :: ds, e, e1, c, fs, h => by
    simp only [asgXs] at h
    cases q : asgN G x d e with
    | err _ _ _ => exact asgN_noerr q
    | stuck => rw [q] at h; cases h
    | ok e2 => rw [q] at h; exact asgXs_noerr (xs := xs) h
abbrev fSw (G : Cn) (xs : List Str) (fa : En → R (List RV × En)) : En → R Fl := fun e => (fa e).bind fun (rs, e1) => (takes e1 rs).bind fun (ds, e2) => (asgXs G xs ds e2).bind fun e3 => .ok (.nx e3)
theorem sw_rd {K : PySem.W.Frag} {xs : List Str} {fa : En → R (List RV × En)} {E : Ends} {σ : St} {H : Hp} : tS K W.me G W (fSw G xs fa) E σ H → tA K W.me W fa σ H fun vs H1 => vs.length = xs.length ∧ E.nx (setAll G xs vs σ) H1 := fun ⟨e, F, A, S, post⟩ => by
  unfold fSw at post
  refine tA_of (T := []) S nilA post fun rvs e1 h1 vs H1 F1 A1 as1 st1 st01 S1 res1 post => ?_
  have st01 : Step A H F (as1 ++ A1) H1 F1 := by simpa using st01
  cases ht : takes e1 rvs with
  | err _ _ _ => exact (takes_noerr ht).elim
  | stuck => simp only [ht, R.bind] at post; exact post.elim
  | ok y =>
    obtain ⟨ds, e2⟩ := y
    simp only [ht, R.bind] at post
    obtain ⟨F2, A2, as2, s2, S2, r2, n2, d2, _, _, _⟩ := takes_ok S1 res1 ht
    cases hf : asgXs G xs ds e2 with
    | stuck => simp only [hf] at post; exact post.elim
    | err _ _ _ => exact (asgXs_noerr hf).elim
    | ok e3 =>
      simp only [hf] at post
      have post : OkS K W.me G σ A H F E (.nx e3) := post
      obtain ⟨A3, S3, sub3, off, hl⟩ := asgXs_ok S2 r2 n2 d2 hf
      exact ⟨hl, post _ H1 F2 A3 ((st01.trans s2).less sub3) S3 off⟩
theorem len2 {α : Type} {l : List α} (h : l.length = 2) : ∃ a b, l = [a, b] := by
  match l, h with
  | [a, b], _ => exact ⟨a, b, rfl⟩
theorem len3 {α : Type} {l : List α} (h : l.length = 3) : ∃ a b c, l = [a, b, c] := by
  match l, h with
  | [a, b, c], _ => exact ⟨a, b, c, rfl⟩
theorem sw_ne2 {x y : Str} (h : ([x, y].eraseDups.length != [x, y].length) = false) : x ≠ y := by
  intro e
  subst e
  simp [List.eraseDups, List.eraseDupsBy, List.eraseDupsBy.loop] at h
theorem sw_ne3 {x y z : Str} (h : ([x, y, z].eraseDups.length != [x, y, z].length) = false) : x ≠ y ∧ x ≠ z ∧ y ≠ z := by
  refine ⟨fun e => ?_, fun e => ?_, fun e => ?_⟩ <;> subst e
  · cases q : (z == x) <;> simp [List.eraseDups, List.eraseDupsBy, List.eraseDupsBy.loop, q] at h
  · cases q : (y == x) <;> cases q2 : (x == y) <;> simp [List.eraseDups, List.eraseDupsBy, List.eraseDupsBy.loop, q, q2] at h
  · cases q : (y == x) <;> simp [List.eraseDups, List.eraseDupsBy, List.eraseDupsBy.loop, q] at h
theorem swap_yes {ts vs : List Expr} {xs : List Str} (h : swap G ts vs = .yes xs) : namesOn G (headLine ts) ts = some xs ∧ (ts.length = 2 ∨ ts.length = 3) ∧ vs.length = ts.length ∧ (xs.eraseDups.length != xs.length) = false := by
  unfold swap at h
  split at h
  · cases h
  · rename_i h1
    split at h
    · cases h
    · split at h
      · rename_i ys hy
        split at h
        · cases h
        · rename_i h3
          split at h
          · cases h
          · split at h
            · cases h
            · cases h
              simp only [Bool.or_eq_true, Bool.not_eq_true', not_or, bne_iff_ne, ne_eq, Decidable.not_not, Bool.not_eq_false, Bool.or_eq_true, beq_iff_eq] at h1
              exact ⟨hy, h1.1, h1.2, by simpa using h3⟩
      · cases h
theorem namesOn_local {line : Nat} : ∀ {ts : List Expr} {xs : List Str}, namesOn G line ts = some xs → (∀ x ∈ xs, G.kind x = some .local) ∧ ∃ ps : List Pos, ts = (xs.zip ps).map (fun q => Expr.Name q.1 q.2) ∧ ps.length = xs.length
  | [], xs, h => by simp only [namesOn, Option.some.injEq] at h; subst h; exact ⟨fun x z => absurd z (by simp), [], rfl, rfl⟩
  | t :: r, xs, h => by
    cases t <;> first | (simp [namesOn] at h; done) | skip
    rename_i x p
    simp only [namesOn] at h
    split at h
    · rename_i hc
      split at h
      · rename_i ys hy
        cases h
        obtain ⟨i1, ps, i2, i3⟩ := namesOn_local hy
        simp only [Bool.and_eq_true, beq_iff_eq] at hc
        refine ⟨fun z hz => ?_, p :: ps, by rw [i2]; rfl, by simp [i3]⟩
        rcases List.mem_cons.mp hz with q | q
        · rw [q]; exact hc.1
        · exact i1 z q
      · cases h
    · cases h
theorem slot_of_local {x : Str} (h : G.kind x = some .local) : G.loc x = true := by unfold Cn.loc; rw [h]
/-- a, b = x, y -/
theorem sS_swap {n : Nat} {ts vs : List Expr} {j j2 : Nat} {p p2 : Pos} {xs : List Str} (g : Good M cl G k W X) (h : swap G ts vs = .yes xs) (hs : ∀ x ∈ xs, (slotOf G.N x).isSome = true) : PS X (.Assign [.Tuple ts j p] (.Tuple vs j2 p2) pos) (tS X.K W.me G W (fSw G xs (evA M cl G n vs))) := by
  refine ⟨fun pins s σ H E I q => ?_⟩
  have hw := (swapped_ok (ts := ts) (vs := vs) (j := j) (j2 := j2) (p := p) (p2 := p2) g I.ok.kind).2 xs h
  obtain ⟨h1, h2, h3, h4⟩ := swap_yes h
  obtain ⟨hl, ps, et, hp⟩ := namesOn_local h1
  have hN : X.N.Nodup := by rw [g.N]; exact g.nd
  have lk : ∀ x ∈ xs, X.env.scope.names.lookup x = some .local := fun x z => by rw [g.sc]; exact hl x z
  have lenx : xs.length = ts.length := (namesOn_some h1).2
  -- a name that has no slot is never stored
  · have at_ : ∀ x ∈ xs, X.N[(slotOf G.N x).getD 0]? = some x := fun x z => by
      obtain ⟨i, hi⟩ := Option.isSome_iff_exists.mp (hs x z)
      rw [hi]
      exact g.at_ hi
    have ne : ∀ x ∈ xs, ∀ y ∈ xs, x ≠ y → (slotOf G.N x).getD 0 ≠ (slotOf G.N y).getD 0 := fun x hx y hy nxy e => by
      have a1 := at_ x hx
      rw [e, at_ y hy] at a1
      exact nxy (Option.some.inj a1).symm
    rcases h2 with h2 | h2
    · have hx2 : xs.length = 2 := lenx.trans h2
      have hp2 : ps.length = 2 := hp.trans hx2
      have hv2 : vs.length = 2 := h3.trans h2
      obtain ⟨x, y, rfl⟩ := len2 hx2
      obtain ⟨px, py, rfl⟩ := len2 hp2
      obtain ⟨a, b, rfl⟩ := len2 hv2
      subst et
      have nxy := sw_ne2 h4
      refine (ps_par g.calm hN (at_ x (by simp)) (at_ y (by simp)) (ne x (by simp) y (by simp) nxy) (lk x (by simp)) (lk y (by simp)) ((snd n).a g [a, b]) hw rfl).run pins s σ H E I ?_
      obtain ⟨e, F, A, S, post⟩ := sw_rd q
      refine ⟨e, F, A, S, PostG.past (Step.refl fun _ z => z) post fun b hb => ?_⟩
      intro ws H' F' A' as st S' res
      obtain ⟨hl, hq⟩ := hb ws H' F' A' as st S' res
      obtain ⟨v, w, rfl⟩ := len2 hl
      exact ⟨v, w, rfl, by simpa [setAll] using hq⟩
    · have hx2 : xs.length = 3 := lenx.trans h2
      have hp2 : ps.length = 3 := hp.trans hx2
      have hv2 : vs.length = 3 := h3.trans h2
      obtain ⟨x, y, z, rfl⟩ := len3 hx2
      obtain ⟨px, py, pz, rfl⟩ := len3 hp2
      obtain ⟨a, b, c, rfl⟩ := len3 hv2
      subst et
      obtain ⟨nxy, nxz, nyz⟩ := sw_ne3 h4
      refine (ps_par3 g.calm hN (at_ x (by simp)) (at_ y (by simp)) (at_ z (by simp)) (ne x (by simp) y (by simp) nxy) (ne x (by simp) z (by simp) nxz) (ne y (by simp) z (by simp) nyz) (lk x (by simp)) (lk y (by simp)) (lk z (by simp)) ((snd n).a g [a, b, c]) hw rfl).run pins s σ H E I ?_
      obtain ⟨e, F, A, S, post⟩ := sw_rd q
      refine ⟨e, F, A, S, PostG.past (Step.refl fun _ z => z) post fun b hb => ?_⟩
      intro ws H' F' A' as st S' res
      obtain ⟨hl, hq⟩ := hb ws H' F' A' as st S' res
      obtain ⟨u, v, w, rfl⟩ := len3 hl
      exact ⟨u, v, w, rfl, by simpa [setAll] using hq⟩
end
end Ev

set_option Elab.async false
set_option linter.all false
set_option maxRecDepth 100000
set_option maxHeartbeats 4000000
/-! Ev28: tuples into targets; op=; branches; loops. -/
namespace Ev
variable [TabsC]
open PySem L2

section
variable {M : Gb} {cl : Cl} {G : Cn} {k : Nat} {W : WL} {X : Cx} {pos : Pos}
abbrev fTupT (ts : List Expr) (fa : En → R (List RV × En)) (fs : List D → En → R En) : En → R Fl := fun e => (fa e).bind fun (rs, e1) => (takes e1 rs).bind fun (ds, e2) => if lenOk ds.length && ts.length == ds.length then (fs ds e2).bind fun e3 => .ok (.nx e3) else .stuck
/-- a[0], b = x, y -/
theorem sS_tupT {n : Nat} {ts vs : List Expr} {j j2 : Nat} {p p2 : Pos} (g : Good M cl G k W X) (h : swap G ts vs = .no) (ht : tgOk ts = true) : PS X (.Assign [.Tuple ts j p] (.Tuple vs j2 p2) pos) (tS X.K W.me G W (fTupT ts (evA M cl G n vs) (asgEach M cl G n ts))) := by
  refine ⟨fun pins s σ H E I q => ?_⟩
  have hw := (swapped_ok (ts := ts) (vs := vs) (j := j) (j2 := j2) (p := p) (p2 := p2) g I.ok.kind).1 h
  · obtain ⟨w1, w2⟩ := tg_each (env := X.env) ht
    refine (ps_asg (pe_tup ((snd n).a g vs)) (pg_tup g.calm (sGsE (n := n) g ht) rfl w2) rfl hw rfl).run pins s σ H E I ?_
    obtain ⟨e, F, A, S, post⟩ := q
    unfold fTupT at post
    refine tA_of (T := []) S nilA post fun rvs e1 h1 vs' H1 F1 A1 as1 st1 st01 S1 res1 post => ?_
    have st01 : Step A H F (as1 ++ A1) H1 F1 := by simpa using st01
    cases htk : takes e1 rvs with
    | err _ _ _ => exact (takes_noerr htk).elim
    | stuck => simp only [htk, R.bind] at post; exact post.elim
    | ok y =>
      obtain ⟨ds, e2⟩ := y
      simp only [htk, R.bind] at post
      obtain ⟨F2, A2, as2, s2, S2, r2, n2, d2, _, _, _⟩ := takes_ok S1 res1 htk
      by_cases hl : (lenOk ds.length && ts.length == ds.length) = true
      · rw [if_pos hl] at post
        rw [Bool.and_eq_true] at hl
        refine ⟨by rw [← r2.length]; exact of_decide_eq_true hl.1, fun a ha => ?_⟩
        have hfr := S2.fresh ha
        have nA : ∀ b ∈ as2 ++ A2, b ≠ a := fun b z eq => by
          subst eq
          rcases List.mem_append.mp z with z | z
          · obtain ⟨o, ho⟩ := ReL.live _ _ _ r2 b z
            rw [ha] at ho; cases ho
          · exact S2.live z ha
        have kp : ∀ b ∈ as2 ++ A2, ∀ o, H1 b = some o → upd H1 a (.tup vs') b = some o := fun b z o q => by rw [upd_ne (nA b z)]; exact q
        have new := Step.new (B := as2 ++ A2) (F := F2) (o := .tup vs') ha
        have S3 : Sta X.K W.me F2 (upd H1 a (.tup vs')) σ e2 A2 := S2.past (fun b o q => by rw [upd_ne (ne_of_none (S2.sub b o q) ha)]; exact S2.sub b o q) (Le.refl _) (fun b z o q => kp b (List.mem_append_right _ z) o q) S2.no (new.ax _ S2.ax)
        have hlv : vs'.length = ts.length := by rw [← r2.length]; exact (eq_of_beq hl.2).symm
        have stn := (st01.trans s2).trans (new.less fun x z => List.mem_cons_of_mem _ z)
        refine ⟨a, vs', rfl, .inl (.inl upd_same), by rw [w1]; exact hlv, e2, F2, A2, ds, as2, S3, ReL.mono (Le.refl _) _ _ _ (fun b z o q => kp b (List.mem_append_left _ z) o q) r2, n2, d2, ?_⟩
        cases hf : asgEach M cl G n ts ds e2 with
        | stuck => rw [hf] at post; exact post.elim
        | err _ _ _ => rw [hf] at post; exact ErrP.past stn post
        | ok e3 =>
          rw [hf] at post
          have post : OkS X.K W.me G σ A H F E (.nx e3) := post
          exact fun σ' H' F' A' st S' off => post σ' H' F' A' (stn.trans st) S' off
      · rw [if_neg hl] at post; exact post.elim
/-- x op= e -/
theorem ip_ok {op : Operator} : PIp X op (fun x y H Q => ∃ F a b as bs d, Rep X.K W.me F H a x as ∧ Rep X.K W.me F H b y bs ∧ binIp op a b = some d ∧ ∃ i, d = .int i ∧ Q (.int i) H) := by
  intro pins s σ H x y v u Q I rx ry ⟨F, a, b, as, bs, d, ra, rb, h, i, ed, q⟩
  cases op <;> first | (simp [binIp] at h; done) | skip
  all_goals
    cases a <;> first | (simp [binIp] at h; done) | skip
    cases b <;> first | (simp [binIp] at h; done) | skip
    simp only [binIp, Option.some.injEq] at h
    rw [← h] at ed
    cases ed
    simp only [Rep] at ra rb
  · exact ip_add pins s σ H x y v u Q I rx ry ⟨_, _, ra.1, rb.1, q⟩
  · exact ip_sub pins s σ H x y v u Q I rx ry ⟨_, _, ra.1, rb.1, q⟩
theorem binIp_int {op : Operator} {a b d : D} (h : binIp op a b = some d) : ∃ i, d = .int i := by
  unfold binIp at h
  split at h <;> first | (cases h; exact ⟨_, rfl⟩) | cases h
theorem setS_ok {i : Nat} {d : D} {e e' : En} (h : setS G i d e = .ok e') : G.bor.contains i = false ∧ i < e.length ∧ e' = e.set i (some d) := by
  unfold setS at h
  split at h
  · cases h
  · rename_i hb
    split at h
    · rename_i hi
      cases h
      exact ⟨by simpa using hb, hi, rfl⟩
    · cases h
theorem setS_noerr {i : Nat} {d : D} {e e1 : En} {c : Str} {fs : List (Str × D)} (h : setS G i d e = .err c fs e1) : False := by
  unfold setS at h
  split at h
  · cases h
  · split at h <;> cases h
abbrev fAug (G : Cn) (op : Operator) (i : Nat) (fe : En → R (RV × En)) : En → R Fl := fun e => (match getE e i with
        | some (.int o) => (fe e).bind fun (rv, e1) => (match content e1 rv with
          | some y => (ofO (binIp op (.int o) y)).bind fun d => (setS G i d e1).bind fun e2 => .ok (.nx e2)
          | none => .stuck)
        | _ => .stuck)
theorem sS_aug {x : Str} {px : Pos} {v : Expr} {op : Operator} {i : Nat} {fe : En → R (RV × En)} (g : Good M cl G k W X) (hs : slotOf G.N x = some i) (hl : G.loc x = true) (he : PE X v (tE X.K W.me W fe)) : PS X (.AugAssign (.Name x px) op v pos) (tS X.K W.me G W (fAug G op i fe)) := by
  obtain ⟨l1, l2⟩ := g.loc hl
  have hN : X.N.Nodup := by rw [g.N]; exact g.nd
  refine psi (ps_aug (ti := fun x y H Q => ∃ F a b as bs d, Rep X.K W.me F H a x as ∧ Rep X.K W.me F H b y bs ∧ binIp op a b = some d ∧ ∃ i, d = .int i ∧ Q (.int i) H) hN (g.at_ hs) l1 he ip_ok l2) fun E σ H ⟨e, F, A, S, post⟩ => ?_
  cases hg : getE e i with
  | none => simp only [fAug, hg] at post; exact post.elim
  | some old =>
    cases old <;> first | (simp only [fAug, hg] at post; exact post.elim) | skip
    rename_i o
    simp only [fAug, hg] at post
    obtain ⟨w, pre, a1, po, q1, q2, q3, _⟩ := EL.at S.el hg
    simp only [Rep] at q3
    refine ⟨w, q1, ?_⟩
    refine tE_of (T := []) S nilA post fun rv e1 h1 y H1 F1 A1 as1 st1 st01 S1 res1 post => ?_
    have st01 : Step A H F (as1 ++ A1) H1 F1 := by simpa using st01
    cases hc : content e1 rv with
    | none => simp only [hc] at post; exact post.elim
    | some z =>
      simp only [hc] at post
      obtain ⟨b1, rz, _⟩ := ResV.content S1 res1 hc
      cases hb : binIp op (.int o) z with
      | none => simp only [hb, ofO, R.bind] at post; exact post.elim
      | some d =>
        simp only [hb, ofO, R.bind] at post
        obtain ⟨r, ed⟩ := binIp_int hb
        subst ed
        refine ⟨F1, .int o, z, [], b1, .int r, by simp only [Rep]; exact ⟨q3.1, trivial⟩, rz, hb, r, rfl, ?_⟩
        cases hst : setS G i (.int r) e1 with
        | stuck => rw [hst] at post; exact post.elim
        | err _ _ _ => exact (setS_noerr hst).elim
        | ok e2 =>
          rw [hst] at post
          obtain ⟨hbor, hi, ee⟩ := setS_ok hst
          subst ee
          have post : OkS X.K W.me G σ A H F E (.nx (e1.set i (some (.int r)))) := post
          obtain ⟨A2, S2, sub2⟩ := S1.put (d := .int r) (v := .int r) (as := []) hi (by simp [Rep]) .nil fun a z => absurd z (by simp)
          exact post _ H1 F1 A2 (st01.less fun a z => List.mem_append_right _ (by simpa using sub2 a z)) S2 (Off.set _ ⟨x, hs, hl, hbor⟩)
/-! ### branches and loops -/
theorem sS_if {c : Expr} {a b : List Stmt} {fc : En → R (Bool × En)} {fa fb : En → R Fl} (hc : PT X c (tT X.K W.me W fc)) (ha : PSs X a (tS X.K W.me G W fa)) (hb : PSs X b (tS X.K W.me G W fb)) : PS X (.If c a b pos) (tS X.K W.me G W fun e => (fc e).bind fun (k, e1) => if k then fa e1 else fb e1) :=
  psi (ps_if hc ha hb) fun E σ H ⟨e, F, A, S, post⟩ => by
    refine tT_of (T := []) S nilA post fun c e1 h1 H1 F1 A1 st1 st01 S1 post => ?_
    cases c with
    | true =>
      rw [if_pos rfl]
      exact tS_past st1 S1 (Off.refl _ _) (Off.refl _ _) post
    | false =>
      rw [if_neg Bool.false_ne_true]
      exact tS_past st1 S1 (Off.refl _ _) (Off.refl _ _) post
theorem sSs_nil : PSs X [] (tS X.K W.me G W fun e => .ok (.nx e)) := pssi pss_nil fun E σ H ⟨e, F, A, S, post⟩ => (show OkS X.K W.me G σ A H F E (.nx e) from post) σ H F A stid S (Off.refl _ _)
abbrev fSeq (fa fr : En → R Fl) : En → R Fl := fun e => (fa e).bind fun
      | .nx e1 => fr e1
      | f => .ok f
theorem sSs_cons (g : Good M cl G k W X) {st : Stmt} {r : List Stmt} {fa fr : En → R Fl} (ha : PS X st (tS X.K W.me G W fa)) (hr : PSs X r (tS X.K W.me G W fr)) : PSs X (st :: r) (tS X.K W.me G W (fSeq fa fr)) :=
  pssi (pss_cons ha hr) fun E σ H ⟨e, F, A, S, post⟩ => by
    refine ⟨e, F, A, S, ?_⟩
    unfold fSeq at post
    cases q : fa e with
    | stuck => rw [q] at post; exact post
    | err _ _ _ => rw [q] at post; exact post
    | ok fl =>
      rw [q] at post
      cases fl with
      | nx e1 => exact fun σ' H' F' A' st S' off => tS_past st S' off (g.off off) post
      | bk e1 => exact post
      | ct e1 => exact post
      | rt d e1 => exact post
/-- for .. in .. -/
theorem sS_for {tg iter : Expr} {body : List Stmt} {fi : En → R (List D × En)} {fb : En → R Fl} (g : Good M cl G k W X) (hi : PI X tg iter (tI X.K W.me W fi)) (hb : PSs X body (tS X.K W.me G W fb)) (hs : ∀ x, foldedSetIterable iter X.env x = pure x) :
    PS X (.For tg iter body [] pos) (tS X.K W.me G W fun e => (fi e).bind fun (ds, e1) => forL (asgT G tg) fb ds e1) := psi (ps_for g.own g.calm hi (sG g tg) hb hs) fun E σ H ⟨e, F, A, S, post⟩ => by
  refine tI_of (T := []) S nilA' post fun ds e1 h1 J H1 F1 A1 st1 st01 S1 hJ post => ?_
  have st01 : Step A H F A1 H1 F1 := by simpa using st01
  let P : Nat → St → Hp → Prop := fun i σ' H' => ∃ e' F' A', Sta X.K W.me F' H' σ' e' A' ∧ Step A H F A' H' F' ∧ Le F1 F' ∧ Off (LocS G) σ σ' ∧ PostG X.K W σ A H F (forL (asgT G tg) fb (ds.drop i) e') (OkS X.K W.me G σ A H F E)
  refine ⟨fun i m σ' H' => m = ds.length - i ∧ i ≤ ds.length ∧ P i σ' H', ⟨ds.length, by simp, Nat.zero_le _, e1, F1, A1, S1, st01, Le.refl _, Off.refl _ _, by simpa using post⟩, ?_⟩
  rintro i m σ' H' ⟨rfl, hi, e', F', A', S', st, l1, off, post⟩
  by_cases hlt : i < ds.length
  · right
    refine ⟨hJ.go i H' F' l1 S'.sub hlt, P (i + 1), fun σ2 H2 h2 => ⟨ds.length - (i + 1), by omega, rfl, hlt, h2⟩, fun x H2 hy => ?_⟩
    rw [drop_cons hlt] at post
    simp only [forL, R.bind_assoc] at post
    obtain ⟨F2, st2, sub2, rx⟩ := hJ.yld i H' F' x H2 ds[i] l1 S'.sub (List.getElem?_eq_getElem hlt) hy
    have live2 : ∀ a ∈ A', ¬ New H' a := fun a z => S'.old z
    have S2 : Sta X.K W.me F2 H2 σ' e' A' := S'.past sub2 st2.le (fun a z o q => st2.keep a o q (S'.nt z q) (by simp)) (fun a z => by
      cases q : F2 a with
      | none => rfl
      | some o =>
        rcases st2.fr a (by rw [q]; simp) with y | y | y
        · exact absurd (S'.no a z) y
        · exact absurd y (by simp)
        · exact absurd y (live2 a z)) (st2.ax _ S'.ax)
    have stt2 : Step A H F A' H2 F2 := by
      have := st2.frame A'
      rw [List.append_nil] at this
      exact st.trans this
    refine ⟨e', F2, A', ds[i], [], S2, rx, .nil, fun a z => absurd z (by simp), ?_⟩
    cases ha : asgT G tg ds[i] e' with
    | err _ _ _ => rw [ha] at post; exact ErrP.past stt2 (ErrP.off (g.off off) post)
    | stuck => rw [ha] at post; exact post.elim
    | ok e2 =>
      rw [ha] at post
      simp only [R.bind] at post
      intro σ3 H3 F3 A3 st3 S3 off3
      have st3 : Step A' H2 F2 A3 H3 F3 := by simpa using st3
      refine ⟨e2, F3, A3, S3, ?_⟩
      have off03 := off.trans off3
      have l3 : Le F1 F3 := (l1.trans st2.le).trans st3.le
      cases hbd : fb e2 with
      | err _ _ _ => rw [hbd] at post; exact ErrP.past (stt2.trans st3) (ErrP.off (g.off off03) post)
      | stuck => rw [hbd] at post; exact post.elim
      | ok fl =>
        rw [hbd] at post
        cases fl with
        | nx e4 => exact fun σ4 H4 F4 A4 st4 S4 off4 => ⟨e4, F4, A4, S4, (stt2.trans st3).trans st4, l3.trans st4.le, off03.trans off4, post⟩
        | ct e4 => exact fun σ4 H4 F4 A4 st4 S4 off4 => ⟨e4, F4, A4, S4, (stt2.trans st3).trans st4, l3.trans st4.le, off03.trans off4, post⟩
        | bk e4 =>
          have post : OkS X.K W.me G σ A H F E (.nx e4) := post
          exact fun σ4 H4 F4 A4 st4 S4 off4 => post σ4 H4 F4 A4 ((stt2.trans st3).trans st4) S4 (off03.trans off4)
        | rt d e4 =>
          have post : OkS X.K W.me G σ A H F E (.rt d e4) := post
          exact fun σ4 v H4 F4 A4 as4 st4 S4 r nd dj off4 => post σ4 v H4 F4 A4 as4 ((stt2.trans st3).trans st4) S4 r nd dj (off03.trans off4)
  · left
    have hie : i = ds.length := by omega
    subst hie
    refine ⟨hJ.stop H' F' l1 S'.sub, ?_⟩
    rw [List.drop_length] at post
    simp only [forL] at post
    exact (show OkS X.K W.me G σ A H F E (.nx e') from post) σ' H' F' A' st S' off
/-- while .. -/
theorem sS_while {c : Expr} {body : List Stmt} {fc : En → R (Bool × En)} {fb : En → R Fl} {n : Nat} (g : Good M cl G k W X) (hc : PT X c (tT X.K W.me W fc)) (hb : PSs X body (tS X.K W.me G W fb)) :
    PS X (.While c body [] pos) (tS X.K W.me G W fun e => whileL fc fb n e) := psi (ps_while g.own hc hb) fun E σ H ⟨e, F, A, S, post⟩ => by
  let P : Nat → St → Hp → Prop := fun i σ' H' => ∃ e' F' A', Sta X.K W.me F' H' σ' e' A' ∧ Step A H F A' H' F' ∧ Off (LocS G) σ σ' ∧ PostG X.K W σ A H F (whileL fc fb i e') (OkS X.K W.me G σ A H F E)
  refine ⟨P, ⟨n, e, F, A, S, stid, Off.refl _ _, post⟩, ?_⟩
  rintro m σ' H' ⟨e', F', A', S', st, off, post⟩
  cases m with
  | zero => simp only [whileL] at post; exact post.elim
  | succ m =>
    simp only [whileL] at post
    refine tT_of (T := []) S' nilA (PostG.off (g.off off) (PostG.past st post fun _ h => h)) fun b e1 h1 H1 F1 A1 st1 st01 S1 _ => ?_
    rw [h1] at post
    simp only [R.bind] at post
    cases b with
    | false =>
      rw [if_neg Bool.false_ne_true]
      exact (show OkS X.K W.me G σ A H F E (.nx e1) from post) σ' H1 F1 A1 (st.trans st1) S1 off
    | true =>
      rw [if_pos rfl]
      simp only [if_true] at post
      refine ⟨P m, fun σ2 H2 h2 => ⟨m, Nat.lt_succ_self m, h2⟩, e1, F1, A1, S1, ?_⟩
      cases hbd : fb e1 with
      | err _ _ _ => rw [hbd] at post; exact ErrP.past (st.trans st1) (ErrP.off (g.off off) post)
      | stuck => rw [hbd] at post; exact post.elim
      | ok fl =>
        rw [hbd] at post
        cases fl with
        | nx e4 => exact fun σ4 H4 F4 A4 st4 S4 off4 => ⟨e4, F4, A4, S4, (st.trans st1).trans st4, off.trans off4, post⟩
        | ct e4 => exact fun σ4 H4 F4 A4 st4 S4 off4 => ⟨e4, F4, A4, S4, (st.trans st1).trans st4, off.trans off4, post⟩
        | bk e4 =>
          have post : OkS X.K W.me G σ A H F E (.nx e4) := post
          exact fun σ4 H4 F4 A4 st4 S4 off4 => post σ4 H4 F4 A4 ((st.trans st1).trans st4) S4 (off.trans off4)
        | rt d e4 =>
          have post : OkS X.K W.me G σ A H F E (.rt d e4) := post
          exact fun σ4 v H4 F4 A4 as4 st4 S4 r nd dj off4 => post σ4 v H4 F4 A4 as4 ((st.trans st1).trans st4) S4 r nd dj (off.trans off4)
end
end Ev

set_option Elab.async false
set_option linter.all false
set_option maxRecDepth 100000
set_option maxHeartbeats 4000000
/-! EvH: try, except. -/
namespace Ev
variable [TabsC]
open PySem L2

section
variable {M : Gb} {cl : Cl} {G : Cn} {k : Nat} {W : WL} {X : Cx}
theorem lookup_zip : ∀ {fs : List (Str × D)} {vfs : List (Str × V)} {K : PySem.W.Frag} {me : Me} {F H : Hp} {f : Str} {d : D}, vfs.map (·.1) = fs.map (·.1) → ReL K me F H (fs.map (·.2)) (vfs.map (·.2)) [] → fs.lookup f = some d → ∃ v, vfs.lookup f = some v ∧ Rep K me F H d v []
  | [], _, _, _, _, _, _, _, _, _, h => by cases h
  | (g, d0) :: fs, [], _, _, _, _, _, _, e, _, _ => by cases e
  | (g, d0) :: fs, (g', v0) :: vfs, K, me, F, H, f, d, e, r, h => by
    simp only [List.map_cons, List.cons.injEq] at e
    obtain ⟨e1, e2⟩ := e
    subst e1
    simp only [List.map_cons, ReL] at r
    obtain ⟨v, r', a1, a2, ev, ea, h1, h2⟩ := r
    obtain ⟨rfl, rfl⟩ := List.append_eq_nil_iff.mp ea.symm
    simp only [List.cons.injEq] at ev
    obtain ⟨rfl, rfl⟩ := ev
    rw [List.lookup_cons] at h ⊢
    cases q : (f == g') with
    | true => rw [q] at h; simp only [Option.some.injEq] at h; subst h; exact ⟨_, rfl, h1⟩
    | false => rw [q] at h; simp only at h; obtain ⟨v, w1, w2⟩ := lookup_zip e2 h2 h; exact ⟨v, w1, w2⟩
/-- the reading of a value in an except suite: nothing is made, nothing is changed -/
def tXv (K : PySem.W.Frag) (me : Me) (c : Str) (fs : List (Str × D)) (cls : Value) (dd : Option Addr) (a : Addr) (nm : Option Str) (N : List Str) (d : D) : TE := fun σ H Q =>
  (∃ F, Le F H ∧ XRep me F c fs cls dd) ∧ (∀ n, nm = some n → ∃ i, slotOf N n = some i ∧ σ[i]? = some (some (.ref a))) ∧ ∀ v, (∀ F, Le F H → XRep me F c fs cls dd → Rep K me F F d v []) → Q v H
theorem evV_ok {c : Str} {nm : Option Str} {fs : List (Str × D)} {a : Addr} {oe : Obj} {cls : Value} {dd : Option Addr} {pn : List (Addr × Obj)} {x : Expr} {d : D} (g : Good M cl G k W X) (hz : Zc cls dd oe) (hv : ∃ vs, oe.data = .fields vs) (hn : ∀ n, nm = some n → G.vis n = true)
    (h : evV M c nm fs x = some d) : PE (X.suite a ((a, oe) :: pn)) x (tXv X.K W.me c fs cls dd a nm G.N d) := by
  unfold evV at h
  split at h
  · cases h
    exact PE.imp pe_str fun σ H Q ⟨_, _, q⟩ => q _ fun F _ _ => by simp [Rep]
  · cases h
    exact PE.imp pe_bl fun σ H Q ⟨_, _, q⟩ => q _ fun F _ _ => by simp [Rep]
  · cases h
    exact PE.imp pe_int fun σ H Q ⟨_, _, q⟩ => q _ fun F _ _ => by simp [Rep]
  · rename_i x p f p2
    by_cases hx : (nm == some x) = true
    · rw [if_pos hx] at h
      have enm : nm = some x := eq_of_beq hx
      split at h
      · rename_i f' hl
        by_cases hf : (f' == f) = true
        · rw [if_pos hf] at h
          have ef : f' = f := eq_of_beq hf
          subst ef
          obtain ⟨C, hm, T, hno⟩ := g.mod.exF c f' hl
          obtain ⟨hlam, _⟩ := g.mod.exO c f' hl
          cases hs : slotOf G.N x with
          | none => exact ⟨fun pins s σ H Q I ⟨_, q, _⟩ => by obtain ⟨i, h1, _⟩ := q x enm; rw [hs] at h1; cases h1⟩
          | some i =>
            obtain ⟨h1, h2⟩ := g.dbg hs
            have pv : PE (X.suite a ((a, oe) :: pn)) (.Name x p) (tVar i) := pe_var (X := X.suite a ((a, oe) :: pn)) (g.at_ hs) (g.vis (hn x enm)) h1 h2
            refine PE.imp (pe_xf (C := C) T hno hz hv pv rfl) fun σ H Q ⟨⟨F, l, hx2⟩, q, post⟩ => ?_
            obtain ⟨i', s1, s2⟩ := q x enm
            rw [hs] at s1
            cases s1
            refine ⟨.ref a, s2, rfl, ?_⟩
            obtain ⟨C', e1, e2, e3⟩ := id hx2
            rw [g.me.of c C hlam hm] at e2
            cases e2
            rcases e3 with ⟨e3, _⟩ | ⟨ddv, vfs, e3, e4, e5, e6⟩
            · subst e3; cases h
            · obtain ⟨v, w1, w2⟩ := lookup_zip e5 e6 h
              refine ⟨e1, ddv, vfs, v, e3, l _ _ e4, w1, post v fun F2 l2 hx3 => ?_⟩
              obtain ⟨C2, p1, p2, p3⟩ := hx3
              rcases p3 with ⟨p3, _⟩ | ⟨dd2, vfs2, p3, p4, p5, p6⟩
              · subst p3; cases h
              · rw [e3] at p3
                cases p3
                have := l2 _ _ p4
                rw [l _ _ e4] at this
                cases this
                obtain ⟨v2, w3, w4⟩ := lookup_zip p5 p6 h
                rw [w1] at w3
                cases w3
                rw [g.me.k] at w4
                exact w4
        · rw [if_neg hf] at h; cases h
      · cases h
    · rw [if_neg hx] at h; cases h
  · cases h
/-- several -/
def tXvs (K : PySem.W.Frag) (me : Me) (c : Str) (fs : List (Str × D)) (cls : Value) (dd : Option Addr) (a : Addr) (nm : Option Str) (N : List Str) (ds : List D) : TA := fun σ H Q =>
  (∃ F, Le F H ∧ XRep me F c fs cls dd) ∧ (∀ n, nm = some n → ∃ i, slotOf N n = some i ∧ σ[i]? = some (some (.ref a))) ∧ ∀ vs, (∀ F, Le F H → XRep me F c fs cls dd → ReL K me F F ds vs []) → Q vs H
theorem PA.imp {X : Cx} {es : List Expr} {t t' : TA} (h : PA X es t) (i : ∀ σ H Q, t' σ H Q → t σ H Q) : PA X es t' := ⟨fun pos pins s σ H Q I q => h.run pos pins s σ H Q I (i σ H Q q)⟩
theorem noStar_tail {x : Expr} {r : List Expr} (h : noStar (x :: r) = true) : noStar r = true ∧ ∀ y p, x ≠ .Starred y p := by
  cases x <;> first | exact ⟨h, fun _ _ z => by cases z⟩ | exact absurd h (by simp [noStar])
theorem evVs_ok {c : Str} {nm : Option Str} {fs : List (Str × D)} {a : Addr} {oe : Obj} {cls : Value} {dd : Option Addr} {pn : List (Addr × Obj)} (g : Good M cl G k W X) (hz : Zc cls dd oe) (hv : ∃ vs, oe.data = .fields vs) (hn : ∀ n, nm = some n → G.vis n = true) : ∀ {es : List Expr} {ds : List D},
    noStar es = true → evVs M c nm fs es = some ds → PA (X.suite a ((a, oe) :: pn)) es (tXvs X.K W.me c fs cls dd a nm G.N ds)
  | [], ds, _, h => by
    simp only [evVs, Option.some.injEq] at h
    subst h
    exact PA.imp pa_nil fun σ H Q ⟨_, _, q⟩ => q [] fun F _ _ => by simp [ReL]
  | x :: r, ds, hs, h => by
    simp only [evVs] at h
    split at h
    · rename_i d ds' hd hds
      cases h
      obtain ⟨hs1, hs2⟩ := noStar_tail hs
      refine PA.imp (pa_cons (evV_ok g hz hv hn hd) (evVs_ok g hz hv hn hs1 hds) (star_not hs2)) fun σ H Q ⟨p1, p2, q⟩ => ?_
      refine ⟨p1, p2, fun v hv => ⟨p1, p2, fun vs hvs => q (v :: vs) fun F l x => ?_⟩⟩
      simp only [ReL]
      exact ⟨v, vs, [], [], rfl, rfl, hv F l x, hvs F l x⟩
    · cases h
/-- what the clause returns -/
def tXx (K : PySem.W.Frag) (me : Me) (c : Str) (fs : List (Str × D)) (cls : Value) (dd : Option Addr) (a : Addr) (nm : Option Str) (N : List Str) (d : D) : TE := fun σ H Q =>
  (∃ F, Le F H ∧ XRep me F c fs cls dd ∧ Gv K me H F d Q) ∧ (∀ n, nm = some n → ∃ i, slotOf N n = some i ∧ σ[i]? = some (some (.ref a)))
theorem evX_ok {c : Str} {nm : Option Str} {fs : List (Str × D)} {a : Addr} {oe : Obj} {cls : Value} {dd : Option Addr} {pn : List (Addr × Obj)} {x : Expr} {d : D} (g : Good M cl G k W X) (hz : Zc cls dd oe) (hv : ∃ vs, oe.data = .fields vs) (hn : ∀ n, nm = some n → G.vis n = true)
    (h : evX M c nm fs x = some d) : PE (X.suite a ((a, oe) :: pn)) x (tXx X.K W.me c fs cls dd a nm G.N d) := by
  have one : evV M c nm fs x = some d → PE (X.suite a ((a, oe) :: pn)) x (tXx X.K W.me c fs cls dd a nm G.N d) := fun h => PE.imp (evV_ok g hz hv hn h) fun σ H Q ⟨⟨F, l, xr, gv⟩, p2⟩ => by
    refine ⟨⟨F, l, xr⟩, p2, fun v hv => ?_⟩
    exact gv v H F [] (Step.refl fun _ z => z) l (Rep.mono (Le.refl F) _ _ _ (fun _ z => absurd z (by simp)) (hv F l xr)) .nil fun _ z => absurd z (by simp)
  unfold evX at h
  split at h
  · rename_i es j p
    cases hds : evVs M c nm fs es with
    | none => rw [hds] at h; cases h
    | some ds =>
      rw [hds] at h
      simp only [Option.bind_some] at h
      by_cases hl : (lenOk ds.length && noStar es) = true
      · rw [if_pos hl] at h
        cases h
        rw [Bool.and_eq_true] at hl
        refine PE.imp (pe_tup (evVs_ok g hz hv hn hl.2 hds)) fun σ H Q ⟨⟨F, l, xr, gv⟩, p2⟩ => ?_
        refine ⟨⟨F, l, xr⟩, p2, fun vs hvs => ?_⟩
        have r := ReL.mono (H' := H) (Le.refl F) _ _ _ (fun _ z => absurd z (by simp)) (hvs F l xr)
        exact ⟨by rw [← r.length]; exact of_decide_eq_true hl.1, fun q hq => gv.tupNew l r hq⟩
      · rw [if_neg hl] at h; cases h
  · exact one h
/-- no comprehension's context -/
structure TopC (X : Cx) : Prop where
  st : X.stack = X.env :: X.outer
  fr : X.env.frame = some X.env.locals
theorem EL.noneAt {K : PySem.W.Frag} {me : Me} {F H : Hp} {e : En} {σ : St} {A : List Addr} (h : EL K me F H e σ A) (nd : A.Nodup) (i : Nat) : ∃ A', EL K me F H (e.set i none) σ A' ∧ A'.Nodup ∧ ∀ a ∈ A', a ∈ A := by
  obtain ⟨pre, a1, po, q1, _, _, q4⟩ := EL.drop i h
  rw [q1] at nd
  obtain ⟨n1, _, _⟩ := nodup_mid nd
  refine ⟨pre ++ po, ?_, n1, fun a z => by rw [q1]; simp only [List.mem_append] at z ⊢; rcases z with z | z <;> simp [z]⟩
  cases hi : σ[i]? with
  | none =>
    have := q4 none
    rwa [List.set_eq_of_length_le (List.getElem?_eq_none_iff.mp hi)] at this
  | some o =>
    have := q4 o
    rwa [set_self hi] at this
/-- try: .. except ..: -/
theorem try_ok {body : List Stmt} {h0 : ExceptHandler} {hds : List ExceptHandler} {pos : Pos} {fb : En → R Fl} (g : Good M cl G k W X) (top : TopC X) (hb : ∀ {W' : WL} {X' : Cx}, Good M cl G k W' X' → TopC X' → PSs X' body (tS X'.K W'.me G W' fb)) :
    PS X (.Try body (h0 :: hds) [] [] pos) (tS X.K W.me G W fun e => match fb e with | .err c fs e1 => evH M G c fs e1 (h0 :: hds) | r => r) := by
  refine ⟨fun pins s σ H D I ⟨e, F, A, S, post⟩ => ?_⟩
  have ok := I.ok
  have hfr : X.A.frames = some (X.env :: X.outer) := by rw [ok.frames, top.st]
  have hN : X.N.Nodup := by rw [g.N]; exact g.nd
  let w' : WX := fun cls d σ' H' => ∃ c fs e1 F' A', XRep W.me F' c fs cls d ∧ Sta X.K W.me F' H' σ' e1 A' ∧ Step A H F A' H' F' ∧ Off (LocS G) σ σ' ∧ PostG X.K W σ A H F (evH M G c fs e1 (h0 :: hds)) (OkS X.K W.me G σ A H F D)
  let xe' : Value → Shared → Prop := fun e s1 => wpAny (model X.prog X.w) X.A (noteFrame e X.env) (fun _ s2 => wpAny (model X.prog X.w) X.A (setFlight e none) (fun _ s3 => wpAny (model X.prog X.w) X.A (handleBy e X.env (h0 :: hds)) (SP X pins D) X.xe s3) X.xe s2) X.xe s1
  have catch_ : Takes (X.tr (X.pn ++ pins) xe') w' := by
    rintro u s' ⟨a, B, sI, pins', σ', H', cls, d, rfl, J', nb, up, sky, na, os, ag, c, fs, e1, F', A', xr, S', st, off, post⟩
    have J : Inv X pins σ' H' sI := J'.ofTry ok
    have sky' : Sky B (X.env :: X.outer) a (Zc cls d) X.env.locals s'.heap := by rw [← top.st]; exact sky
    show wpAny (model X.prog X.w) X.A (noteFrame (.ref a) X.env) _ _ _
    refine Sky.land Zc.steady hfr top.fr sky' fun h3 fl3 up3 => ?_
    have J3 : Inv X pins σ' H' { s' with heap := h3 } := J.landed nb fl3.1 (up.trans up3) os ag
    obtain ⟨oe3, vs3, he3, hz3, hd3⟩ := fl3.there
    have nfr : a ∉ frs (X.env :: X.outer) := fun hm => by
      obtain ⟨_, o', e', hnf⟩ := fl3.2.2.1.mem hm
      rw [he3] at e'; cases e'
      exact hnf _ hd3
    have nL : a ≠ X.env.locals := fun z => nfr (List.mem_filterMap.mpr ⟨X.env, List.mem_cons_self, by rw [top.fr, z]⟩)
    have nF : a ∉ X.fs := fun hm => by
      obtain ⟨e, he, q⟩ := List.mem_filterMap.mp hm
      exact nfr (List.mem_filterMap.mpr ⟨e, List.mem_cons_of_mem _ he, q⟩)
    have S3 := J3.suite he3 hd3 na nL nF
    have C0 : ∃ C, cls = .ref C ∧ W.me.of c = some (.ref C) := let ⟨C, e1, e2, _⟩ := xr; ⟨C, e1, e2⟩
    have look : ∀ {x : Str} {b : Bool} {np : Pos} {R : Bool → Shared → Prop} {E1 E2 : Value → Shared → Prop}, G.glob x = true → M.exm.lookup (c, x) = some b → R b { s' with heap := h3 } →
        wpAny (model X.prog X.w) (X.A.mark (some (.ref a))) (eval (.Name x np) X.env) (fun cv s1 => wpAny (model X.prog X.w) (X.A.mark (some (.ref a))) (excMatches (.ref a) cv) (fun b s2 => R b s2) E1 s1) E2 { s' with heap := h3 } := fun {x b np R E1 E2} hg hex q => by
      obtain ⟨hlam, hdb, C, vX, hmC, hx, he⟩ := g.mod.exm c x b hex
      obtain ⟨C1, ec, eo⟩ := C0
      rw [g.me.of c C hlam hmC] at eo
      cases eo
      have LT : PySem.W.Looks (model X.prog X.w) h3 (typeOf (.ref a)) cls := fun A Q E s k q => wpAny_typeOf_ref (k _ _ he3) (by rw [hz3.1]; exact q)
      have LM := PySem.W.exm_one (M := model X.prog X.w) (J3.kIn) LT (by rw [ec]; exact he)
      rcases hx with hm | ⟨hm, hv, hnn⟩
      · exact ld_glob (X := X.suite a ((a, oe3) :: (X.pn ++ pins))) S3 (g.glob hg) hm (LM.here q) hdb
      · exact ld_blt (X := X.suite a ((a, oe3) :: (X.pn ++ pins))) S3 (g.glob hg) hm hv (LM.here q) hnn hdb
    have go : ∀ (hs : List ExceptHandler), PostG X.K W σ A H F (evH M G c fs e1 hs) (OkS X.K W.me G σ A H F D) → wpAny (model X.prog X.w) X.A (handleBy (.ref a) X.env hs) (SP X pins D) X.xe { s' with heap := h3 } := by
      intro hs
      induction hs with
      | nil =>
        intro post
        have post : ErrP X.K W σ A H F c fs e1 := post
        refine wpAny_handleBy_nil ?_
        obtain ⟨k1, k2, k3, oe, vs, T, oT, ts', he, hz, hd, h1, hr⟩ := id fl3
        unfold PySem.passOn
        refine wpAny_bind (wpAny_field he hd h1 ?_)
        rw [if_neg (show ¬ ((Value.ref T == Value.none) = true) from by simp)]
        have fin : wpAny (model X.prog X.w) X.A (setFlight (.ref a) X.env.frame) (fun _ s4 => wpAny (model X.prog X.w) X.A (throw (.ref a) : Sem Flow) (SP X pins D) X.xe s4) X.xe { s' with heap := h3 } := by
          rw [top.fr]
          refine HandSPX.setFlight_upZ fl3 fun h4 hh4 up4 => wpAny_throw (g.takes _ _ ?_)
          exact ⟨a, B, sI, pins, σ', H', cls, d, rfl, J, nb, (up.trans up3).trans up4, .inr (.inr (by rw [top.st]; exact hh4)), na, os, ag, post cls d σ' H' F' A' xr st S' (g.off off)⟩
        first
          | exact wpAny_bind (wpAny_pure (wpAny_bind fin))
          | exact wpAny_bind fin
      | cons hd0 hs ih =>
        intro post
        unfold evH at post
        split at post
        · rename_i heq; cases heq
        · rename_i x np v rp hp rest heq
          cases heq
          by_cases hc : ((slotOf G.N x).isNone && G.glob x) = true
          · rw [if_pos hc] at post
            rw [Bool.and_eq_true] at hc
            cases hex : M.exm.lookup (c, x) with
            | none => rw [hex] at post; exact post.elim
            | some b =>
              rw [hex] at post
              refine wpAny_handleBy_cons (codeAny_handlers_test (look hc.2 hex ?_)) (by intro q; cases q)
              cases b with
              | false =>
                show wpAny _ X.A (handleBy (.ref a) X.env _) _ _ _
                exact ih post
              | true =>
                refine codeAny_handlers_suite ?_
                cases hX : evX M c none fs v with
                | none => rw [hX] at post; exact post.elim
                | some dv =>
                  rw [hX] at post
                  have post : OkS X.K W.me G σ A H F D (.rt dv e1) := post
                  refine HandSPX.lands_againZ fl3 fun h4 fl4 up4 => ?_
                  have J4 : Inv X pins σ' H' { s' with heap := h4 } := J.landed nb fl4.1 ((up.trans up3).trans up4) os ag
                  obtain ⟨oe4, vs4, he4, hz4, hd4⟩ := fl4.there
                  have S4 := J4.suite he4 hd4 na nL nF
                  have gv : Gv X.K W.me H' F' dv D.rt := fun u H2 F2 cs st1 sub2 r nd no => by
                    obtain ⟨S2, out⟩ := S'.by st1 sub2
                    exact post σ' u H2 F2 A' cs (st.trans (((st1.frame A').more (by simp)).less fun y z => by simp only [List.mem_append] at z ⊢; rcases z with z | z <;> simp [z])) S2 r nd (fun y z => ⟨out y z, no y z⟩) off
                  have hs := pss_one (ps_ret (pos := rp) (evX_ok (a := a) (pn := X.pn ++ pins) g hz4 ⟨_, hd4⟩ (fun n h => by cases h) hX))
                  refine wpAny_mono (hs.run [] _ _ H' D S4 ⟨⟨F', S'.sub, xr, gv⟩, fun n h => by cases h⟩) (fun f s6 hsp => ?_) (fun _ _ z => False.elim z)
                  cases f with
                  | next => obtain ⟨σ6, H6, S6, q6⟩ := hsp; exact ⟨_, _, S6.unsuite ok, q6⟩
                  | brk => obtain ⟨σ6, H6, S6, q6⟩ := hsp; exact ⟨_, _, S6.unsuite ok, q6⟩
                  | cont => obtain ⟨σ6, H6, S6, q6⟩ := hsp; exact ⟨_, _, S6.unsuite ok, q6⟩
                  | ret u => obtain ⟨v6, σ6, H6, S6, r6, q6⟩ := hsp; exact ⟨_, _, _, S6.unsuite ok, r6, q6⟩
          · rw [if_neg hc] at post; exact post.elim
        · rename_i x np nm v rp hp rest heq
          cases heq
          by_cases hc : ((slotOf G.N x).isNone && G.glob x) = true
          · rw [if_pos hc] at post
            rw [Bool.and_eq_true] at hc
            cases hsl : slotOf G.N nm with
            | none => rw [hsl] at post; exact post.elim
            | some i =>
              rw [hsl] at post
              dsimp only at post
              by_cases hkl : (G.kind nm == some .local) = true
              · rw [if_pos hkl] at post
                have hk : G.kind nm = some .local := eq_of_beq hkl
                cases hex : M.exm.lookup (c, x) with
                | none => rw [hex] at post; exact post.elim
                | some b =>
                  rw [hex] at post
                  refine wpAny_handleBy_cons (codeAny_handlers_test (look hc.2 hex ?_)) (by intro q; cases q)
                  cases b with
                  | false =>
                    show wpAny _ X.A (handleBy (.ref a) X.env _) _ _ _
                    exact ih post
                  | true =>
                    refine codeAny_handlers_suite_as ?_
                    cases hX : evX M c (some nm) fs v with
                    | none => rw [hX] at post; exact post.elim
                    | some dv =>
                      rw [hX] at post
                      have post : OkS X.K W.me G σ A H F D (.rt dv (e1.set i none)) := post
                      have hi := g.at_ hsl
                      have hln : X.env.kindOf nm = some .local := by rw [g.kind]; exact hk
                      have hloc : Loc X.env.scope nm := .inl hln
                      have hvis : G.vis nm = true := by unfold Cn.vis; rw [hk]
                      refine HandSPX.lands_againZ fl3 fun h4 fl4 up4 => ?_
                      have J4 : Inv X pins σ' H' { s' with heap := h4 } := J.landed nb fl4.1 ((up.trans up3).trans up4) os ag
                      obtain ⟨oe4, vs4, he4, hz4, hd4⟩ := fl4.there
                      have S4 := J4.suite he4 hd4 na nL nF
                      have hlt : i < σ'.length := by
                        have := J.len
                        rw [this]
                        exact (List.getElem?_eq_some_iff.mp hi).1
                      have gv : Gv X.K W.me H' F' dv D.rt := fun u H2 F2 cs st1 sub2 r nd no => by
                        obtain ⟨S2, out⟩ := S'.by st1 sub2
                        obtain ⟨A2, z1, z2, z3⟩ := EL.noneAt S2.el S2.nd i
                        refine post σ' u H2 F2 A2 cs (st.trans (((st1.frame A').more (by simp)).less fun y z => ?_)) ⟨S2.sub, z1, z2, fun y z => S2.no y (z3 y z), S2.ax⟩ r nd (fun y z => ⟨fun w => out y z (z3 y w), no y z⟩) off
                        rcases List.mem_append.mp z with z | z
                        · simp [z]
                        · simp [z3 y z]
                      have hs := pss_one (ps_ret (pos := rp) (evX_ok (a := a) (pn := X.pn ++ pins) g hz4 ⟨_, hd4⟩ (fun n h => by cases h; exact hvis) hX))
                      refine store_ok (X := X.suite a ((a, oe4) :: (X.pn ++ pins))) (v := .ref a) S4 hN hi hloc rfl (fun s5 S5 => ?_) (.inr hln)
                      refine wpAny_mono (hs.run [] s5 _ H' { nx := fun σ' H' => D.nx (σ'.set i none) H', rt := D.rt, bk := fun σ' H' => D.bk (σ'.set i none) H', ct := fun σ' H' => D.ct (σ'.set i none) H' } S5 ⟨⟨F', S'.sub, xr, gv⟩, fun n h => by cases h; exact ⟨i, hsl, by rw [List.getElem?_set_self hlt]⟩⟩) (fun f s6 hsp => ?_) (fun _ _ z => False.elim z)
                      cases f with
                      | next =>
                        obtain ⟨σ6, H6, S6, q6⟩ := hsp
                        exact gone_ok (S6.unsuite ok) hN hi hln fun s7 J7 => ⟨_, _, J7, q6⟩
                      | brk =>
                        obtain ⟨σ6, H6, S6, q6⟩ := hsp
                        exact gone_ok (S6.unsuite ok) hN hi hln fun s7 J7 => ⟨_, _, J7, q6⟩
                      | cont =>
                        obtain ⟨σ6, H6, S6, q6⟩ := hsp
                        exact gone_ok (S6.unsuite ok) hN hi hln fun s7 J7 => ⟨_, _, J7, q6⟩
                      | ret u =>
                        obtain ⟨v6, σ6, H6, S6, r6, q6⟩ := hsp
                        exact gone_ok (S6.unsuite ok) hN hi hln fun s7 J7 => ⟨_, _, _, J7, r6, q6⟩
              · rw [if_neg hkl] at post; exact post.elim
          · rw [if_neg hc] at post; exact post.elim
        · exact post.elim
    exact go _ post
  have g' : Good M cl G k ⟨w', LocS G, W.me⟩ (X.tr (X.pn ++ pins) xe') := {
    N := g.N, sc := g.sc, fn := g.fn, nd := g.nd, nn := g.nn, mod := g.mod, me := g.me, offL := fun _ h => h, calm := g.calm, room := g.room, guards := g.guards, takes := catch_, own := PassesOwn.looking, noclo := g.noclo, calls := g.calls, lows := g.lows, act := g.act, mkl := g.mkl }
  refine wpAny_Try_except (wpAny_mono ((hb g' ⟨top.st, top.fr⟩).run [] s σ H D (I.toTry _) ⟨e, F, A, S, ?_⟩) (fun f s1 hsp => ?_) (fun e s1 he => he))
  · dsimp only at post
    cases hf : fb e with
    | stuck => rw [hf] at post; exact post.elim
    | ok fl => rw [hf] at post; exact post
    | err c fs e1 =>
      rw [hf] at post
      exact fun cls d σ' H' F' A' xr st S' off => ⟨c, fs, e1, F', A', xr, S', st, off, post⟩
  · cases f with
    | next =>
      obtain ⟨σ', H', J', q⟩ := hsp
      exact wpAny_execs_nil ⟨σ', H', J'.ofTry ok, q⟩
    | brk =>
      obtain ⟨σ', H', J', q⟩ := hsp
      exact ⟨σ', H', J'.ofTry ok, q⟩
    | cont =>
      obtain ⟨σ', H', J', q⟩ := hsp
      exact ⟨σ', H', J'.ofTry ok, q⟩
    | ret u =>
      obtain ⟨v, σ', H', J', r, q⟩ := hsp
      exact ⟨v, σ', H', J'.ofTry ok, r, q⟩
end
end Ev

set_option Elab.async false
set_option linter.all false
set_option maxRecDepth 100000
set_option maxHeartbeats 8000000
/-! Ev29: any statement. -/
namespace Ev
variable [TabsC]
open PySem L2

section
variable {M : Gb} {cl : Cl} {G : Cn} {k : Nat} {W : WL} {X : Cx} {pos : Pos}
/-- raise C("..") -/
theorem sS_raiseP {c : Str} {m : Str} {j : Nat} {p p2 pos' : Pos} (g : Good M cl G k W X) (hg : G.glob c = true) (hx : M.excs.lookup c = some .plain) : PS X (.Raise (some (.Call (.Name c p) [.Constant (.str m) j p2] [] pos)) none pos') (tS X.K W.me G W fun e => .err c [] e) := by
  obtain ⟨hne, C, hm, rule⟩ := g.mod.exP c hx
  exact psi (ps_raise g.calm g.takes (rule X rfl rfl (g.glob hg) m j p p2 pos)) fun E σ H ⟨e, F, A, S, post⟩ =>
    (show ErrP X.K W σ A H F c [] e from post) (.ref C) none σ H F A ⟨C, rfl, g.me.of c C hne hm, .inl ⟨rfl, rfl⟩⟩ stid S (Off.refl _ _)
/-- raise C(v) -/
theorem sS_raiseO {c f : Str} {a : Expr} {p pos' : Pos} {fe : En → R (RV × En)} (g : Good M cl G k W X) (hg : G.glob c = true) (hx : M.excs.lookup c = some (.own f)) (hn : noStar [a] = true) (he : PE X a (tE X.K W.me W fe)) :
    PS X (.Raise (some (.Call (.Name c p) [a] [] pos)) none pos') (tS X.K W.me G W fun e => (fe e).bind fun (v, e1) => (takeF e1 v).bind fun (d, e2) => .err c [(f, d)] e2) := by
  obtain ⟨hne, C, hm, rule⟩ := g.mod.exO c f hx
  refine psi (ps_raise g.calm g.takes (rule X k rfl rfl rfl (g.glob hg) g.room g.guards g.calm a _ p pos hn he)) fun E σ H ⟨e, F, A, S, post⟩ => ?_
  refine tE_of (T := []) S nilA post fun rv e1 h1 v H1 F1 A1 as1 st1 st01 S1 res1 post => ?_
  have st01 : Step A H F (as1 ++ A1) H1 F1 := by simpa using st01
  cases ht : takeF e1 rv with
  | err _ _ _ => exact (takeF_noerr ht).elim
  | stuck => simp only [ht, R.bind] at post; exact post.elim
  | ok y =>
    obtain ⟨d, e2⟩ := y
    simp only [ht, R.bind] at post
    obtain ⟨F2, A2, s2, S2, r2⟩ := takeF_ok S1 res1 ht
    intro dd hdd
    have hf := S2.fresh hdd
    have new := Step.newF (B := A2) (o := .xd [(f, v)]) hdd hf
    have sub2 : Le (upd F2 dd (.xd [(f, v)])) (upd H1 dd (.xd [(f, v)])) := fun b o q => by
      by_cases z : b = dd
      · subst z; rw [upd_same] at q ⊢; exact q
      · rw [upd_ne z] at q ⊢; exact S2.sub b o q
    have nA : ∀ b ∈ A2, b ≠ dd := fun b z q => S2.live z (by rw [q]; exact hdd)
    have S3 : Sta X.K W.me (upd F2 dd (.xd [(f, v)])) (upd H1 dd (.xd [(f, v)])) σ e2 A2 := S2.past sub2 new.le (fun b z o q => by rw [upd_ne (nA b z)]; exact q) (fun b z => by rw [upd_ne (nA b z)]; exact S2.no b z) (new.ax _ S2.ax)
    refine (show ErrP X.K W σ A H F c [(f, d)] e2 from post) (.ref C) (some dd) σ _ _ A2 ⟨C, rfl, g.me.of c C hne hm, .inr ⟨dd, [(f, v)], rfl, upd_same, rfl, ?_⟩⟩ ((st01.trans s2).trans new) S3 (Off.refl _ _)
    rw [g.me.k]
    simp only [List.map_cons, List.map_nil, ReL]
    exact ⟨v, [], [], [], rfl, rfl, (Rep.mono new.le _ _ _ (fun _ z => absurd z (by simp)) r2), rfl, rfl⟩
theorem forset_st {n : Nat} {tg : Expr} {es : List Expr} {j : Nat} {p : Pos} {β : Type} {f : List D × En → R β} (e : En) : ((evI M cl G n tg (.Set es j p) e).bind f) = .stuck := by rw [evI_set]; rfl
theorem snd_s (w : Nat) : ∀ (n : Nat) {k : Nat} {W : WL} {X : Cx} (g : Good M cl G k W X) (top : TopC X), (∀ st, PS X st (tS X.K W.me G W (evS M cl G w n st))) ∧ (∀ ss, PSs X ss (tS X.K W.me G W (evSs M cl G w n ss)))
  | 0, _, _, _, g, top => ⟨fun st => ⟨fun _ _ _ _ _ _ ⟨_, _, _, _, post⟩ => by unfold evS at post; exact post.elim⟩, fun ss => ⟨fun _ _ _ _ _ _ ⟨_, _, _, _, post⟩ => by unfold evSs at post; exact post.elim⟩⟩
  | n + 1, k, W, X, g, top => by
    obtain ⟨ihs, ihb⟩ := snd_s w n g top
    have ee := fun x => (snd (M := M) (cl := cl) w).e g x
    refine ⟨fun st => ⟨fun pins s σ H E I ⟨e, F, A, S, post⟩ => ?_⟩, fun ss => ?_⟩
    · unfold evS at post
      split at post
      · exact sS_pass.run pins s σ H E I ⟨e, F, A, S, post⟩
      · exact sS_break.run pins s σ H E I ⟨e, F, A, S, post⟩
      · exact sS_cont.run pins s σ H E I ⟨e, F, A, S, post⟩
      · exact sS_retN.run pins s σ H E I ⟨e, F, A, S, post⟩
      · exact (sS_ret (ee _)).run pins s σ H E I ⟨e, F, A, S, post⟩
      · rename_i o m ap a cp p _
        by_cases hm : (m == "append" && ap.endLine == cp.line && noStar [a] && plainO o) = true
        · rw [if_pos hm] at post
          simp only [Bool.and_eq_true] at hm
          have em : m = "append" := eq_of_beq hm.1.1.1
          subst em
          rcases base_or o "append" X.env with ⟨f, p1, p2, eo⟩ | hb
          · subst eo
            simp [plainO] at hm
          · exact (sS_app ((snd w).o g o) (ee a) (evO_flat w o) hb hm.1.2 hm.1.1.2).run pins s σ H E I ⟨e, F, A, S, post⟩
        · rw [if_neg hm] at post
          by_cases hm2 : (m == "extend" && ap.endLine == cp.line && noStar [a] && plainO o) = true
          · rw [if_pos hm2] at post
            simp only [Bool.and_eq_true] at hm2
            have em : m = "extend" := eq_of_beq hm2.1.1.1
            subst em
            rcases base_or o "extend" X.env with ⟨f, p1, p2, eo⟩ | hb
            · subst eo
              simp [plainO] at hm2
            · exact (sS_ext ((snd w).o g o) (ee a) (evO_flat w o) hb hm2.1.2 hm2.1.1.2).run pins s σ H E I ⟨e, F, A, S, post⟩
          · rw [if_neg hm2] at post; exact post.elim
      · exact (sS_expr (ee _) rfl).run pins s σ H E I ⟨e, F, A, S, post⟩
      · rename_i x px v p _
        by_cases hok : okN G x = true
        · rw [if_pos hok] at post
          exact (sS_asg g hok).run pins s σ H E I ⟨e, F, A, S, post⟩
        · rw [if_neg hok] at post; exact post.elim
      · rename_i ts j tp v p _
        split at post
        · rename_i vs j2 p2 _
          split at post
          · rename_i xs hsw
            by_cases hs : (!(xs.all fun x => (slotOf G.N x).isSome)) = true
            · rw [if_pos hs] at post; exact post.elim
            · rw [if_neg hs] at post
              exact (sS_swap g hsw (by rw [Bool.not_eq_true, Bool.not_eq_false'] at hs; exact List.all_eq_true.mp hs)).run pins s σ H E I ⟨e, F, A, S, post⟩
          · rename_i hsw
            by_cases hl : (ts.length == vs.length && tgOk ts) = true
            · rw [if_pos hl] at post
              rw [Bool.and_eq_true] at hl
              exact (sS_tupT g hsw hl.2).run pins s σ H E I ⟨e, F, A, S, post⟩
            · rw [if_neg hl] at post; exact post.elim
          · exact post.elim
        · rename_i hv
          exact (sS_tupV g fun vs j p q => hv vs j p q).run pins s σ H E I ⟨e, F, A, S, post⟩
      · exact (sS_asgI g).run pins s σ H E I ⟨e, F, A, S, post⟩
      · rename_i x px op v p _
        split at post
        · rename_i i hs
          by_cases hl : G.loc x = true
          · rw [if_pos hl] at post
            exact (sS_aug g hs hl (ee v)).run pins s σ H E I ⟨e, F, A, S, post⟩
          · rw [if_neg hl] at post; exact post.elim
        · exact post.elim
      · rename_i c cp a cpos p _
        by_cases hc : ((slotOf G.N c).isNone && G.glob c) = true
        · rw [if_pos hc] at post
          rw [Bool.and_eq_true] at hc
          split at post
          · rename_i hx
            split at post
            · exact (sS_raiseP g hc.2 hx).run pins s σ H E I ⟨e, F, A, S, post⟩
            · exact post.elim
          · rename_i f hx
            by_cases hn : noStar [a] = true
            · rw [if_pos hn] at post
              exact (sS_raiseO g hc.2 hx hn (ee a)).run pins s σ H E I ⟨e, F, A, S, post⟩
            · rw [if_neg hn] at post; exact post.elim
          · exact post.elim
        · rw [if_neg hc] at post; exact post.elim
      · exact (try_ok g top fun g' t' => (snd_s w n g' t').2 _).run pins s σ H E I ⟨e, F, A, S, post⟩
      · exact (sS_if ((snd w).t g _) (ihb _) (ihb _)).run pins s σ H E I ⟨e, F, A, S, post⟩
      · rename_i tg iter body p _
        rcases isset_or iter with ⟨es, j, p', eq⟩ | hs
        · subst eq
          rw [forset_st] at post
          exact post.elim
        · exact (sS_for g ((snd w).i g tg iter) (ihb body) (hs X.env)).run pins s σ H E I ⟨e, F, A, S, post⟩
      · exact (sS_while g ((snd w).t g _) (ihb _)).run pins s σ H E I ⟨e, F, A, S, post⟩
      · exact post.elim
    · cases ss with
      | nil =>
        have : evSs M cl G w (n + 1) [] = fun e => .ok (.nx e) := by funext e; unfold evSs; rfl
        rw [this]
        exact sSs_nil
      | cons st r =>
        have : evSs M cl G w (n + 1) (st :: r) = fSeq (evS M cl G w n st) (evSs M cl G w n r) := by
          funext e
          conv => lhs; unfold evSs
          all_goals rfl
        rw [this]
        exact sSs_cons g (ihs st) (ihb r)
end
end Ev

set_option Elab.async false
set_option linter.all false
set_option maxRecDepth 100000
set_option maxHeartbeats 1000000
/-! Ev30: defs. -/
namespace Ev
variable [TabsC]
open PySem L2
open PyProof.Rows (envOfC)

section
variable {K : PySem.W.Frag} {mg : Me} {F H : Hp}
theorem EL.more (n : Nat) : ∀ {ds : List D} {vs : List V} {A : List Addr}, EL K mg F H (ds.map some) (vs.map some) A → EL K mg F H (ds.map some ++ List.replicate n none) (vs.map some ++ List.replicate n none) A
  | [], vs, A, h => by
    simp only [List.map_nil, EL, List.map_eq_nil_iff] at h
    obtain ⟨h1, h2⟩ := h
    subst h1; subst h2
    simp only [List.map_nil, List.nil_append]
    induction n with
    | zero => simp [EL]
    | succ n ih => rw [List.replicate_succ, List.replicate_succ]; simp only [EL]; exact ⟨none, _, rfl, ih⟩
  | d :: ds, vs, A, h => by
    simp only [List.map_cons, EL] at h
    obtain ⟨v, r, a1, a2, ev, ea, h1, h2⟩ := h
    cases vs with
    | nil => cases ev
    | cons w vs =>
      simp only [List.map_cons, List.cons.injEq, Option.some.injEq] at ev
      obtain ⟨e1, e2⟩ := ev
      subst e1; subst e2
      simp only [List.map_cons, List.cons_append, EL]
      exact ⟨w, _, a1, a2, rfl, ea, h1, EL.more n h2⟩
theorem EL.len : ∀ {e : En} {σ : St} {A : List Addr}, EL K mg F H e σ A → σ.length = e.length
  | [], σ, A, h => by simp only [EL] at h; rw [h.1]; rfl
  | none :: e, σ, A, h => by
    simp only [EL] at h
    obtain ⟨o, r, es, h⟩ := h
    rw [es, List.length_cons, List.length_cons, EL.len h]
  | some d :: e, σ, A, h => by
    simp only [EL] at h
    obtain ⟨v, r, a1, a2, es, _, _, h⟩ := h
    rw [es, List.length_cons, List.length_cons, EL.len h]
theorem EL.nones : ∀ (ds : List D) (vs : List V), vs.length = ds.length → EL K mg F H (outsOf ds []) (vs.map some) []
  | [], vs, h => by
    have : vs = [] := List.length_eq_zero_iff.mp h
    subst this
    simp [outsOf, EL]
  | d :: ds, [], h => by simp at h
  | d :: ds, v :: vs, h => by
    simp only [outsOf, List.map_cons, EL]
    exact ⟨some v, _, rfl, EL.nones ds vs (by simpa using h)⟩
/-- what is given back -/
theorem EL.outs : ∀ {ds : List D} {vs : List V} {e : En} {σ : St} {A : List Addr}, EL K mg F H e σ A → A.Nodup → vs.length = ds.length → (∀ (j : Nat) (d : D), ds[j]? = some d → owned d = true → ∀ v, vs[j]? = some v → σ[j]? = some (some v)) →
    ∃ A', EL K mg F H (outsOf ds e) (vs.map some) A' ∧ A'.Nodup ∧ ∀ a ∈ A', a ∈ A
  | [], vs, e, σ, A, h, nd, hl, hv => by
    have : vs = [] := List.length_eq_zero_iff.mp hl
    subst this
    exact ⟨[], by simp [outsOf, EL], .nil, fun a z => absurd z (by simp)⟩
  | d :: ds, [], e, σ, A, h, nd, hl, hv => by simp at hl
  | d :: ds, v :: vs, [], σ, A, h, nd, hl, hv => ⟨[], EL.nones (d :: ds) (v :: vs) hl, .nil, fun a z => absurd z (by simp)⟩
  | d :: ds, v :: vs, none :: e, σ, A, h, nd, hl, hv => by
    simp only [EL] at h
    obtain ⟨o, r, es, h⟩ := h
    subst es
    obtain ⟨A', h1, h2, h3⟩ := EL.outs (ds := ds) (vs := vs) h nd (by simpa using hl) fun j d' hj ho v' hv' => by
      have := hv (j + 1) d' (by simpa using hj) ho v' (by simpa using hv')
      simpa using this
    refine ⟨A', ?_, h2, h3⟩
    have : (if owned d = true then (none : Option D) else none) = none := by split <;> rfl
    simp only [outsOf, this, List.map_cons, EL]
    exact ⟨some v, _, rfl, h1⟩
  | d :: ds, v :: vs, some d0 :: e, σ, A, h, nd, hl, hv => by
    simp only [EL] at h
    obtain ⟨w, r, a1, a2, es, ea, h1, h2⟩ := h
    subst es; subst ea
    obtain ⟨n1, n2, n3⟩ := List.nodup_append.mp nd
    obtain ⟨A', q1, q2, q3⟩ := EL.outs (ds := ds) (vs := vs) h2 n2 (by simpa using hl) fun j d' hj ho v' hv' => by
      have := hv (j + 1) d' (by simpa using hj) ho v' (by simpa using hv')
      simpa using this
    by_cases ho : owned d = true
    · have hw := hv 0 d (by simp) ho v (by simp)
      simp only [List.getElem?_cons_zero, Option.some.injEq] at hw
      subst hw
      refine ⟨a1 ++ A', ?_, List.nodup_append.mpr ⟨n1, q2, fun a z b y => n3 a z b (q3 b y)⟩, fun a z => ?_⟩
      · simp only [outsOf, ho, if_true, List.map_cons, EL]
        exact ⟨w, _, a1, A', rfl, rfl, h1, q1⟩
      · rcases List.mem_append.mp z with z | z
        · exact List.mem_append_left _ z
        · exact List.mem_append_right _ (q3 a z)
    · refine ⟨A', ?_, q2, fun a z => List.mem_append_right _ (q3 a z)⟩
      simp only [outsOf, if_neg ho, List.map_cons, EL]
      exact ⟨some v, _, rfl, q1⟩
end

/-- the state of a def's entry, an exception within -/
theorem fnG_of {CX : CXT} {P : Program} {w : World} {K : PySem.W.Frag} {mg : Str → Option Value} {base : Heap} {k : Nat} {f : Addr} {name qual : Str} {params : Arguments} {body : List Stmt} {scope : Scope} {dV kV doc pm cdv ct oc : Value} {an od : Option Addr}
    {osl : Array (Option Value)} {N ps : List Str} {sp : SpS} (lk : K.lookup f = some ⟨oc, od, .func (PySem.W.fnOf name qual params body scope dV kV doc pm an cdv ct), osl⟩) (hcd : PySem.W.codeIn K cdv qual = true) (S : FnScope N ps scope)
    (len : ∀ A o s vs H Q E, sp A o s vs H Q E → vs.length = ps.length)
    (inner : ∀ (A : Around) (outer : List PySem.Env) (s : Shared) (H : Hp) (vs : List V) (Q : VK) (E : XK), A.guards = some [] → Room k (A.deeper (envOfC qual scope s.heap.objs.size f cdv)) → sp A outer s vs H Q E →
      ∃ t, PSs (cxOf CX P w K mg base N qual scope f cdv A outer s H E) body t ∧ t { nx := fun _ H' => Q .non H', rt := Q } (start N vs) H) :
    FnG P w K mg base CX (k + 1) f (PySem.W.fnOf name qual params body scope dV kV doc pm an cdv ct) ps sp where
  len := len
  run A outer s H args us vs Q E hr hgd e0 hb r hsp := by
    have keepB : ∀ b o, base.get? b = some o → s.heap.get? b = some o := fun b o e => (e0.bs b o e).1
    have KX := e0.mod.kin.keeps keepB
    have kinds : ∀ y ∈ ps.zip us, scope.names.lookup y.1 = some .local ∨ (scope.names.lookup y.1 = some .cell ∧ ((cellsFrom (s.heap.objs.size + 1) scope.names []).lookup y.1).isSome = true) := by
      rintro ⟨n, v⟩ hy
      exact (S.par n (List.of_mem_zip hy).1).imp id fun q => ⟨q, PySem.W.cellsFrom_some _ _ _ (.inl q)⟩
    refine codeAny_call_function hr.depth (KX _ _ lk) rfl S.co S.gen rfl (PySem.W.codeRec_of KX hcd) (hb _ _ _ _ (wpAny_newFunctionEnv_cells S.kind kinds fun env he s1 x => ?_))
    subst he
    refine ⟨(e0.mod.nolimit.keeps keepB).keeps x.toInCall.keep, codeAny_func ?_⟩
    obtain ⟨t, ht, hq⟩ := inner A outer s H vs Q E hgd (hr.deeper _) hsp
    refine wpAny_mono (ht.run [] s1 _ H _ (inv_start S hr.hd e0 (len _ _ _ _ _ _ _ hsp) r x) hq) (fun fl s' hs => ?_) fun e s' hs => hs
    cases fl with
    | next => obtain ⟨_, H', J, q⟩ := hs; exact ⟨V.non, H', J.os, J.bare, J.base, J.hok, rfl, q⟩
    | ret u => obtain ⟨v, _, H', J, rv, q⟩ := hs; exact ⟨v, H', J.os, J.bare, J.base, J.hok, rv, q⟩
    | brk => obtain ⟨_, _, _, q⟩ := hs; exact q.elim
    | cont => obtain ⟨_, _, _, q⟩ := hs; exact q.elim

/-- what is known of a def of the text -/
structure DfOk (K : PySem.W.Frag) (mg : Str → Option Value) (base : Heap) (f : Str) (df : Df) (fa : Addr) (fd : FuncData) (ps : List Str) : Prop where
  mgf : mg f = some (.ref fa)
  keep : PySem.W.keepIn K (.ref fa) = true
  binds : Binds K fd ps []
  text : ∃ (name qual : Str) (params : Arguments) (dV kV doc pm cdv ct oc : Value) (an od : Option Addr) (osl : Array (Option Value)), fd = PySem.W.fnOf name qual params (defBody df.st) (defScope df.st) dV kV doc pm an cdv ct ∧ K.lookup fa = some ⟨oc, od, .func fd, osl⟩ ∧ PySem.W.codeIn K cdv qual = true ∧
    (df.lam = true → ∃ c P, LamX.TabB base mg c P ∧ cdv = .ref c ∧ (P, (qual ++ ".<locals>.") ++ lamN) ∈ TabsC.T ∧ ∀ p ∈ TabsC.T, p.1 = P → p.2 = (qual ++ ".<locals>.") ++ lamN)
  scope : FnScope df.N ps (defScope df.st)
  np : ps.length = df.np
  nn : ∀ x ∈ df.N, (x == ("__debug__" : Str)) = false ∧ (x == ("__classdict__" : Str)) = false
  /-- a def that is handed a lambda makes none -/
  cl : df.lam = true → df.clo = false
structure TabOk (M : Gb) (P : Program) (T : List (Str × Df)) (K : PySem.W.Frag) (mg : Str → Option Value) (base : Heap) : Prop where
  mod : ModOk M P K mg
  defs : ∀ f, M.defs.contains f = true → ∃ df fa fd ps, T.lookup f = some df ∧ DfOk K mg base f df fa fd ps
theorem bor_of {ds : List D} {j : Nat} {d : D} (h : ds[j]? = some d) (ho : owned d = true) : (borOf ds).contains j = true := by
  rw [List.contains_iff_mem]
  unfold borOf
  rw [List.mem_filter]
  exact ⟨List.mem_range.mpr (List.getElem?_eq_some_iff.mp h).1, by rw [h]; exact ho⟩
/-- where a def's body stands -/
abbrev cnOf (df : Df) (ds : List D) : Cn := { N := df.N, sc := defScope df.st, fnc := fun _ => true, bor := borOf ds, clo := df.clo, lam := df.lam, hc := df.clo }
theorem fnG_stuck {P : Program} {w : World} {K : PySem.W.Frag} {mg : Str → Option Value} {base : Heap} {CX : CXT} {k : Nat} {fa : Addr} {fd : FuncData} {ps : List Str} {cl : Cl0} {f : Str} (h : ∀ ds, cl f ds = .stuck) : FnG P w K mg base CX k fa fd ps (spC P w K mg base cl f) :=
  ⟨fun A o s vs H Q E ⟨me, ds, F, A', _, _, S, q⟩ => by rw [h] at q; exact q.elim, fun A o s H args us vs Q E _ _ _ _ _ ⟨me, ds, F, A', _, _, S, q⟩ => by rw [h] at q; exact q.elim⟩
/-- every def does at every level what the evaluator says -/
theorem lev_ok {M : Gb} {T : List (Str × Df)} {P : Program} {w : World} {K : PySem.W.Frag} {mg : Str → Option Value} {base : Heap} (tab : TabOk M P T K mg base) : ∀ (k : Nat) (f : Str) (df : Df) (fa : Addr) (fd : FuncData) (ps : List Str), T.lookup f = some df → DfOk K mg base f df fa fd ps →
    FnG P w K mg base (L2.CX P w) k fa fd ps (spC P w K mg base (lev M T k) f) := by
  intro k
  induction k using Nat.strongRecOn with
  | ind k ih =>
    intro f df fa fd ps ht h
    cases k with
    | zero => exact fnG_stuck fun ds => rfl
    | succ k =>
      have all : ∀ j, j ≤ k → ∀ f, M.defs.contains f = true → ∃ fa fd ps, mg f = some (.ref fa) ∧ PySem.W.keepIn K (.ref fa) = true ∧ Binds K fd ps [] ∧ FnG P w K mg base (L2.CX P w) j fa fd ps (spC P w K mg base (lev M T j) f) := fun j hj f' hf' => by
        obtain ⟨df', fa', fd', ps', ht', h'⟩ := tab.defs f' hf'
        exact ⟨fa', fd', ps', h'.mgf, h'.keep, h'.binds, ih j (Nat.lt_succ_of_le hj) f' df' fa' fd' ps' ht' h'⟩
      obtain ⟨name, qual, params, dV, kV, doc, pm, cdv, ct, oc, an, od, osl, efd, lk, hcd, hlam⟩ := h.text
      have hlev : ∀ ds, lev M T (k + 1) f ds = runDef M ⟨lev M T k, low M T k, decide (2 ≤ k)⟩ df ds := fun ds => by
        rw [lev_succ, ht]
      have hlen : ∀ A o s vs H Q E, spC P w K mg base (lev M T (k + 1)) f A o s vs H Q E → vs.length = ps.length := fun A o s vs H Q E ⟨me, ds, F, A', _, _, S, q⟩ => by
        rw [hlev] at q
        have e1 := EL.len S.el
        rw [List.length_map, List.length_map] at e1
        rw [e1, h.np]
        unfold runDef at q
        by_cases hn : ds.length ≠ df.np
        · rw [if_pos hn] at q; exact q.elim
        · simpa using hn
      subst efd
      refine fnG_of lk hcd h.scope hlen fun A outer s H vs Q E hgd hr hsp => ?_
      have hvl := hlen _ _ _ _ _ _ _ hsp
      obtain ⟨me, ds, F, A0, hme, hact, S, q⟩ := hsp
      have e1 := EL.len S.el
      rw [List.length_map, List.length_map] at e1
      rw [hlev] at q
      unfold runDef at q
      have hn : ¬ ds.length ≠ df.np := by rw [← e1, hvl, h.np]; simp
      rw [if_neg hn] at q
      by_cases hcc : (!df.clo && ds.any isClo) = true
      · rw [if_pos hcc] at q; exact q.elim
      rw [if_neg hcc] at q
      have hat : ∀ (c : Cl) (G : Cn), G.hc = false → G.inl = false → c.at G = c.f := fun c G h1 h2 => by unfold Cl.at; rw [h1, h2]; rfl
      have hst : ∀ (c : Cl) (G : Cn) (f : Str) (ds : List D), G.hc = true → c.at G f ds = .stuck := fun c G f ds h1 => by unfold Cl.at; rw [if_pos h1]
      have callsOk : ∀ (cl : Cl) (G : Cn), cl.f = lev M T k → G.inl = false → ∀ f, M.defs.contains f = true → ∃ fa fd ps, mg f = some (.ref fa) ∧ PySem.W.keepIn K (.ref fa) = true ∧ Binds K fd ps [] ∧ FnG P w K mg base (L2.CX P w) k fa fd ps (spC P w K mg base (cl.at G) f) := fun cl G h1 h2 f' hf' => by
        obtain ⟨fa', fd', ps', q1, q2, q3, q4⟩ := all k (Nat.le_refl k) f' hf'
        refine ⟨fa', fd', ps', q1, q2, q3, ?_⟩
        cases hc : G.hc with
        | true => exact fnG_stuck fun ds' => hst cl G f' ds' hc
        | false => rw [hat cl G hc h2, h1]; exact q4
      let G : Cn := cnOf df ds
      let X : Cx := cxOf (L2.CX P w) P w K mg base df.N qual (defScope df.st) fa cdv A outer s H E
      let W : WL := ⟨fun cls d _ H => E cls d H, LocS G, me⟩
      have visOk : ∀ x, G.vis x = true → Vis (defScope df.st) x := fun x hx => by
        unfold Cn.vis at hx
        unfold Vis
        have hk : G.kind x = (defScope df.st).names.lookup x := rfl
        rw [hk] at hx
        split at hx <;> first | (rename_i q; exact .inl q) | (rename_i q; exact .inr (.inl q)) | (rename_i q; exact .inr (.inr q)) | cases hx
      let cl : Cl := ⟨lev M T k, low M T k, decide (2 ≤ k)⟩
      have actOk : G.clo = true → ∀ (pn : List (Addr × Obj)) (xe : Value → Shared → Prop) (W' : WL) (i : Nat) (x : Str) (p1 p2 : Pos), W'.me = W.me → Takes (X.tr pn xe) W'.w → slotOf G.N x = some i → G.vis x = true → PE (X.tr pn xe) (.Call (.Name x p1) [] [] p2) (tE X.K W'.me W' (fCallC i)) := by
        intro hc pn xe W' i x p1 p2 hW tk hs hv
        cases hm : me.clo with
        | none =>
          refine ⟨fun pins s σ H Q I ⟨e, F, A, S, post⟩ => ?_⟩
          exfalso
          have hW : W'.me = me := hW
          cases hg : getE e i with
          | none => simp only [fCallC, hg] at post; exact post.elim
          | some d =>
            obtain ⟨v, pre, a1, po, q1, q2, q3, _⟩ := EL.at S.el hg
            cases d <;> first
              | (simp only [fCallC, hg] at post; exact post.elim)
              | (simp only [Rep] at q3
                 rw [hW, hm] at q3
                 exact absurd q3.2.1 (by simp))
        | some c =>
          obtain ⟨_, h2⟩ := hact (by rw [hm]; simp)
          obtain ⟨n1, n2⟩ := h.nn x (List.mem_of_getElem? (slotOf_at hs))
          exact h2 k df.N qual (defScope df.st) fa cdv E pn xe W' i x p1 p2 hW tk hr (slotOf_at hs) (visOk x hv) n1 n2
      have good : Good M cl G k W X := {
        N := rfl
        sc := rfl
        fn := rfl
        nd := h.scope.nd
        nn := h.nn
        mod := tab.mod
        me := hme
        offL := fun _ h => h
        calm := rfl
        room := hr
        guards := hgd
        takes := takes_of rfl rfl rfl rfl
        own := passes_of rfl
        noclo := fun hc => by
          cases hm : me.clo with
          | none => rfl
          | some c =>
            exfalso
            obtain ⟨h1, _⟩ := hact (by rw [hm]; simp)
            have hc : df.clo = false := hc
            rw [hc, h1] at hcc
            exact hcc rfl
        calls := callsOk cl G rfl rfl
        lows := fun hl htw => by
          have h2 : 2 ≤ k := of_decide_eq_true htw
          obtain ⟨j, rfl⟩ : ∃ j, k = j + 2 := ⟨k - 2, by omega⟩
          exact ⟨rfl, h.cl hl, j, rfl, fun f' hf' => all j (by omega) f' hf'⟩
        act := actOk
        mkl := fun hl => hlam hl }
      refine ⟨_, (snd_s 60 200 good ⟨rfl, rfl⟩).2 (defBody df.st), ds.map some ++ List.replicate (df.N.length - ds.length) none, F, A0, ⟨S.sub, ?_, S.nd, S.no, S.ax⟩, ?_⟩
      · unfold L2.start
        rw [e1]
        exact EL.more _ S.el
      · -- what the body leaves
        have back : ∀ {e : En} {σ' : St} {H' F' : Hp} {A' : List Addr}, Sta K me F' H' σ' e A' → Off (LocS G) (start df.N vs) σ' → ∃ A2, Sta K me F' H' (vs.map some) (outsOf ds e) A2 ∧ ∀ a ∈ A2, a ∈ A' := fun {e σ' H' F' A'} S' off => by
          obtain ⟨A2, h1, h2, h3⟩ := EL.outs (ds := ds) (vs := vs) S'.el S'.nd e1 fun j d hj ho v hv => by
            rw [off.2 j fun ⟨x, _, _, hb⟩ => by
              have hb : (borOf ds).contains j = false := hb
              rw [bor_of hj ho] at hb; cases hb]
            unfold L2.start
            have hlt : j < vs.length := (List.getElem?_eq_some_iff.mp hv).1
            rw [List.getElem?_append_left (by simpa using hlt), List.getElem?_map, hv]
            rfl
          exact ⟨A2, ⟨S'.sub, h1, h2, fun a z => S'.no a (h3 a z), S'.ax⟩, h3⟩
        show PostG K W _ A0 H F (evSs M cl G 60 200 (defBody df.st) (ds.map some ++ List.replicate (df.N.length - ds.length) none)) _
        have q : (match (match evSs M cl G 60 200 (defBody df.st) (ds.map some ++ List.replicate (df.N.length - ds.length) none) with
            | .ok (.nx e) => (.ok (.non, outsOf ds e) : R (D × List (Option D)))
            | .ok (.rt d e) => .ok (d, outsOf ds e)
            | .err c fs e => .err c fs (outsOf ds e)
            | _ => .stuck) with
          | .ok (d, outs) => ∀ v H' F' A' as, Step A0 H F (as ++ A') H' F' → Sta K me F' H' (vs.map some) outs A' → Rep K me F' H' d v as → as.Nodup → (∀ a ∈ as, a ∉ A' ∧ F' a = none) → Q v H'
          | .err c fs outs => ∀ cls d H' F' A', XRep me F' c fs cls d → Step A0 H F A' H' F' → Sta K me F' H' (vs.map some) outs A' → E cls d H'
          | .stuck => False) := q
        cases hev : evSs M cl G 60 200 (defBody df.st) (ds.map some ++ List.replicate (df.N.length - ds.length) none) with
        | stuck => rw [hev] at q; exact q.elim
        | err c fs e =>
          rw [hev] at q
          intro cls d σ' H' F' A' xr st S' off
          obtain ⟨A2, S2, sub⟩ := back S' off
          exact q cls d H' F' A2 xr (st.less sub) S2
        | ok fl =>
          rw [hev] at q
          cases fl with
          | nx e =>
            intro σ' H' F' A' st S' off
            obtain ⟨A2, S2, sub⟩ := back S' off
            exact q .non H' F' A2 [] (st.less fun a z => sub a (by simpa using z)) S2 (by simp [Rep]) .nil fun a z => absurd z (by simp)
          | rt d e =>
            intro σ' v H' F' A' as st S' r nd dj off
            obtain ⟨A2, S2, sub⟩ := back S' off
            refine q v H' F' A2 as (st.less fun a z => ?_) S2 r nd fun a z => ⟨fun y => (dj a z).1 (sub a y), (dj a z).2⟩
            rcases List.mem_append.mp z with z | z
            · exact List.mem_append_left _ z
            · exact List.mem_append_right _ (sub a z)
          | bk e => exact q.elim
          | ct e => exact q.elim
end Ev

set_option Elab.async false
set_option linter.all false
set_option maxRecDepth 100000
set_option maxHeartbeats 4000000
/-! Ev31: a law's call, no repr under way; the tables of the code objects that make lambdas stand open. -/
namespace Ev
open PySem L2 PySem.Spec
open PyProof.Rows hiding St

/-- a code object, its table, the name of its lambdas -/
abbrev Ct := Addr × Addr × Str
/-- the end that the judge asks for -/
abbrev EndT (s₁ : Shared) : Result → Shared → Prop := fun r s' => r = .ok (.ret (.bool true)) ∧ OldK s₁.heap s'.heap ∧ s'.os = s₁.os ∧ AllBare s'.gens
/-- the script's heap: the tables, and what S tells -/
def Htb (cs : List Ct) (S : Hp) : Hp := fun b => if b ∈ cs.map (fun p => p.2.1) then some (.tbl #[]) else S b
def Hsc (a : Addr) (vs : List Value) (ns : List Int) : Hp := fun b => if b = a then some (.frz { cls := .type "list", data := .seq vs.toArray } (.lst (ns.map V.int))) else none
/-- what stands in the heap of a code object and its table -/
def CsOk (K : PySem.W.Frag) (h : Heap) (p : Ct) : Prop := h.get? p.2.1 = some (PySem.W.tabObj #[]) ∧ K.lookup p.2.1 = none ∧ PySem.W.CodeHd h p.1 p.2.1
abbrev tabsI (cs : List Ct) : TabsC := ⟨cs.map fun p => (p.2.1, p.2.2)⟩

section
variable {P : Program} {w : World} {K : PySem.W.Frag} {mg mb : Str → Option Value} {CX : CXT} {k : Nat} {fa a : Addr} {fd : FuncData} {x : Str} {sp : SpS} {s₁ : Shared} {vs : List Value} {ns : List Int} {cs : List Ct}
/-- what is tracked ahead: tables, frozen lists -/
def OnlyT (cs : List Ct) (H : Hp) : Prop := ∀ b, H b = none ∨ (b ∈ cs.map (fun p => p.2.1) ∧ H b = some (.tbl #[])) ∨ ∃ o xs, H b = some (.frz o (.lst xs))
theorem law_callH (KX : K.In s₁.heap) (hns : s₁.heap.Ns mainGlobals mg) (hb : s₁.heap.Ns builtinsNs mb) (hbb : ∀ x : Str, x ≠ "__name__" → mb x = bootBuiltins x) (hlim : s₁.heap.NoLimit) (hg : s₁.gens = #[])
    (hC : ∀ p ∈ cs, CsOk K s₁.heap p)
    (hbm : ∃ (bm : Addr) (ob : Obj), mg "__builtins__" = some (.ref bm) ∧ bm ≠ builtinsNs ∧ s₁.heap.get? bm = some ob ∧ ob.cls = .type "module" ∧ ob.dict = some builtinsNs ∧ ob.data = .plain)
    (hr : Room k callerA) (F : ∀ base : Heap, K.In base → base.Ns mainGlobals mg → (∀ p ∈ cs, LamX.TabB base mg p.1 p.2.1) → FnG P w K mg base CX k fa fd [x] sp) (hbind : ∀ (s : Shared) (u : Value), BindsTo s fd ⟨[u], []⟩ [(x, u)])
    (hCX : ∀ H e s', CX [] H s₁ (fun _ _ _ => False) e s' → False)
    (H : Hp) (hO : OnlyT cs H) (hT : ∀ p ∈ cs, H p.2.1 = some (.tbl #[])) (promise : sp callerA [] s₁ [.ref a] H (fun v _ => v = .bl true) fun _ _ _ => False) (hok : HOk P w H s₁.heap)
    (hK : ∀ b ob, K.lookup b = some ob → H b = none) (hD : ∀ b o, s₁.heap.get? b = some o → (∀ us n, o.data ≠ .seq us n) → o ≠ PySem.W.tabObj #[] → H b = none) : codeAny (model P w) callerA (.call (.ref fa) ⟨[.ref a], []⟩) (EndT s₁) s₁ := by
  have hid : ∀ {b : Addr} {o : Obj}, s₁.heap.get? b = some o → (∀ us n, o.data ≠ .seq us n) → o ≠ PySem.W.tabObj #[] → (hidT s₁.heap H).get? b = some o := fun e h1 h2 => hidT_get e (hD _ _ e h1 h2)
  have nsB : ∀ {b : Addr} {m : Str → Option Value}, s₁.heap.Ns b m → (hidT s₁.heap H).Ns b m := by
    rintro b m ⟨o, es, ep, e, d, r⟩
    exact ⟨o, es, ep, hid e (fun us n z => by rw [d] at z; cases z) (fun z => by rw [z] at d; cases d), d, r⟩
  have KB : K.In (hidT s₁.heap H) := fun b o e => hidT_get (KX b o e) (hK b o e)
  obtain ⟨mc, c1, c2⟩ := hlim
  have TB : ∀ p ∈ cs, LamX.TabB (hidT s₁.heap H) mg p.1 p.2.1 := fun p hp => by
    obtain ⟨t1, t2, o, us, file, tf, flags, tg, inF, text, tt, e1, r1, r2, rr⟩ := hC p hp
    have nG : ∀ {b : Addr} {ob : Obj}, s₁.heap.get? b = some ob → ob ≠ PySem.W.tabObj #[] → b ≠ p.2.1 := fun {b ob} e n z => by
      rw [z, t1] at e
      exact n (Option.some.inj e).symm
    obtain ⟨og, eg, pg, g1, g2, g3⟩ := hns
    obtain ⟨bm, ob, b1, b2, b3, b4, b5, b6⟩ := hbm
    have nt : ob ≠ PySem.W.tabObj #[] := fun z => by rw [z] at b6; cases b6
    refine ⟨⟨o, us, file, tf, flags, tg, inF, text, tt, hid e1 (fun us n z => by rw [r2] at z; cases z) (fun z => by rw [z] at r1; cases r1), r1, r2, rr⟩, ⟨bm, ob, b1, b2, fun z => ?_, nG b3 nt, hid b3 (fun us n z => by rw [b6] at z; cases z) nt, b4, b5, b6⟩, nG g1 fun z => by rw [z] at g2; cases g2⟩
    rw [z, g1] at b3
    rw [← Option.some.inj b3, g2] at b6
    cases b6
  have e0 : Env0 P w K mg (hidT s₁.heap H) callerA [] s₁ H := {
    frames := rfl
    mod := ⟨KB, nsB hns, ⟨mb, nsB hb, hbb⟩, ⟨mc, nsB c1, c2⟩⟩
    bs := fun b o e => of_hidT e
    bsz := Nat.le_of_eq (hidT_size _ _)
    funs := trivial
    frf := by intro b hb; exact absurd hb (by simp [frs])
    hok := hok
    bare := .of_eq hg }
  have run := (F _ KB (nsB hns) TB).run callerA [] s₁ H ⟨[.ref a], []⟩ [.ref a] [.ref a] _ _ hr rfl e0 (hbind s₁ (.ref a)) (.cons rfl .nil) promise
  refine codeAny_mono run fun r s' h => ?_
  match r, h with
  | .error e, h => exact (hCX H e s' h).elim
  | .ok .next, h => exact h.elim
  | .ok .brk, h => exact h.elim
  | .ok .cont, h => exact h.elim
  | .ok (.ret u), ⟨v, H', os, bare, un, hok', r', q⟩ =>
    have hu : u = Value.bool true := by
      have q' : v = .bl true := q
      rw [q'] at r'
      exact r'
    -- a tracked table may have grown, all else stands
    have key : ∀ b o, s₁.heap.get? b = some o → s'.heap.get? b = some o ∨ ∃ p ∈ cs, b = p.2.1 ∧ ∃ more : Array Value, s'.heap.get? b = some (PySem.W.tabObj more) := fun b o e => by
      rcases hO b with z | ⟨m, z⟩ | ⟨ob, xs, z⟩
      · exact .inl (un.keep b o e z (fun y => by simp [frs] at y) (by simp))
      · obtain ⟨p, hp, ep⟩ := List.mem_map.mp m
        obtain ⟨more, y⟩ := un.tbls b #[] z
        exact .inr ⟨p, hp, ep.symm, _, hok' b _ y⟩
      · have f1 := (hok b _ z).1
        have f2 := (hok' b _ (un.frzs b ob _ z)).1
        have : o = ob := Option.some.inj (e.symm.trans f1)
        exact .inl (by rw [this]; exact f2)
    refine ⟨by rw [hu], ⟨fun b o e => ?_, fun b o e => ?_⟩, os, bare⟩
    · rcases key b o e with z | ⟨p, hp, ep, more, z⟩
      · exact .inl z
      · obtain ⟨t1, t2, t3⟩ := hC p hp
        rw [ep] at e z ⊢
        rw [t1] at e
        cases e
        exact .inr (.inl ⟨(t3.tab t1).isCodeTable, rfl, #[], more, rfl, by rw [Array.empty_append]; exact z⟩)
    · rcases key b o e with z | ⟨p, hp, ep, more, z⟩
      · exact ⟨_, z⟩
      · exact ⟨_, z⟩
theorem law_callG (KX : K.In s₁.heap) (hns : s₁.heap.Ns mainGlobals mg) (hb : s₁.heap.Ns builtinsNs mb) (hbb : ∀ x : Str, x ≠ "__name__" → mb x = bootBuiltins x) (hlim : s₁.heap.NoLimit) (hg : s₁.gens = #[])
    (hC : ∀ p ∈ cs, CsOk K s₁.heap p)
    (hbm : ∃ (bm : Addr) (ob : Obj), mg "__builtins__" = some (.ref bm) ∧ bm ≠ builtinsNs ∧ s₁.heap.get? bm = some ob ∧ ob.cls = .type "module" ∧ ob.dict = some builtinsNs ∧ ob.data = .plain)
    (ha : s₁.heap.get? a = some { cls := .type "list", data := .seq vs.toArray }) (hi : IntsAre vs ns) (hl : ns.length ≤ sizeLine) (hr : Room k callerA)
    (F : ∀ base : Heap, K.In base → base.Ns mainGlobals mg → (∀ p ∈ cs, LamX.TabB base mg p.1 p.2.1) → FnG P w K mg base CX k fa fd [x] sp) (hbind : ∀ (s : Shared) (u : Value), BindsTo s fd ⟨[u], []⟩ [(x, u)])
    (hsp : ∀ H S : Hp, (∀ b, S b ≠ none → H b = S b) → (∀ b o, S b = some o → NT o) → (∀ p ∈ cs, H p.2.1 = some (.tbl #[])) → SqL K S a (ns.map V.int) → sp callerA [] s₁ [.ref a] H (fun v _ => v = .bl true) fun _ _ _ => False)
    (hCX : ∀ H e s', CX [] H s₁ (fun _ _ _ => False) e s' → False) :
    codeAny (model P w) callerA (.call (.ref fa) ⟨[.ref a], []⟩) (EndT s₁) s₁ := by
  have rv := vals_ints hi
  have isT : ∀ b ∈ cs.map (fun p => p.2.1), s₁.heap.get? b = some (PySem.W.tabObj #[]) ∧ K.lookup b = none := fun b hb => by
    obtain ⟨p, hp, e⟩ := List.mem_map.mp hb
    obtain ⟨t1, t2, _⟩ := hC p hp
    rw [← e]
    exact ⟨t1, t2⟩
  have memT : ∀ p ∈ cs, p.2.1 ∈ cs.map (fun p => p.2.1) := fun p hp => List.mem_map.mpr ⟨p, hp, rfl⟩
  have aT : a ∉ cs.map (fun p => p.2.1) := fun z => by
    have q := (isT a z).1
    rw [ha] at q
    cases q
  have htab : ∀ {S : Hp} {b : Addr}, b ∈ cs.map (fun p => p.2.1) → Htb cs S b = some (.tbl #[]) := fun hb => if_pos hb
  have hout : ∀ {S : Hp} {b : Addr}, b ∉ cs.map (fun p => p.2.1) → Htb cs S b = S b := fun hb => if_neg hb
  cases hk : K.lookup a with
  | some o =>
    have e := (KX a o hk).symm.trans ha
    cases e
    have cases' : ∀ b, Htb cs (fun _ => none) b = none ∨ (b ∈ cs.map (fun p => p.2.1) ∧ Htb cs (fun _ => none) b = some (.tbl #[])) := fun b => by
      by_cases hb : b ∈ cs.map (fun p => p.2.1)
      · exact .inr ⟨hb, htab hb⟩
      · exact .inl (hout hb)
    refine law_callH KX hns hb hbb hlim hg hC hbm hr F hbind hCX (Htb cs fun _ => none) (fun b => (cases' b).imp id .inl) (fun p hp => htab (memT p hp)) (hsp _ (fun _ => none) (fun b z => absurd rfl z) (fun b o z => nomatch z) (fun p hp => htab (memT p hp)) (.inr ⟨_, vs.toArray, _, hk, rfl, rfl, rfl, ?_, by simpa using rv⟩))
      (fun b u z => ?_) (fun b ob z => ?_) fun b o z h1 h2 => ?_
    · rw [List.size_toArray, hi.length]
      exact hl
    · rcases cases' b with q | ⟨m, q⟩
      · rw [q] at z; cases z
      · rw [q] at z; cases z
        exact (isT b m).1
    · rcases cases' b with q | ⟨m, q⟩
      · exact q
      · rw [(isT b m).2] at z; cases z
    · rcases cases' b with q | ⟨m, q⟩
      · exact q
      · rw [(isT b m).1] at z; exact absurd (Option.some.inj z).symm h2
  | none =>
    have hsa : Hsc a vs ns a = some (.frz { cls := .type "list", data := .seq vs.toArray } (.lst (ns.map V.int))) := if_pos rfl
    have hsn : ∀ b, b ≠ a → Hsc a vs ns b = none := fun b h => if_neg h
    have cases' : ∀ b, (b = a ∧ Htb cs (Hsc a vs ns) b = some (.frz { cls := .type "list", data := .seq vs.toArray } (.lst (ns.map V.int)))) ∨ (b ∈ cs.map (fun p => p.2.1) ∧ Htb cs (Hsc a vs ns) b = some (.tbl #[])) ∨ Htb cs (Hsc a vs ns) b = none := fun b => by
      by_cases hb : b ∈ cs.map (fun p => p.2.1)
      · exact .inr (.inl ⟨hb, htab hb⟩)
      · by_cases h : b = a
        · subst h; exact .inl ⟨rfl, (hout hb).trans hsa⟩
        · exact .inr (.inr ((hout hb).trans (hsn b h)))
    refine law_callH KX hns hb hbb hlim hg hC hbm hr F hbind hCX (Htb cs (Hsc a vs ns)) (fun b => ?_) (fun p hp => htab (memT p hp)) (hsp _ (Hsc a vs ns) (fun b z => ?_) (fun b o z => ?_) (fun p hp => htab (memT p hp)) (.inl (.inr ⟨_, hsa⟩)))
      (fun b u z => ?_) (fun b ob z => ?_) fun b o z h1 h2 => ?_
    · rcases cases' b with ⟨_, q⟩ | q | q
      · exact .inr (.inr ⟨_, _, q⟩)
      · exact .inr (.inl q)
      · exact .inl q
    · by_cases h : b = a
      · subst h; exact hout aT
      · exact absurd (hsn b h) z
    · by_cases h : b = a
      · subst h; rw [hsa] at z; cases z; exact fun ps e => nomatch e
      · rw [hsn b h] at z; cases z
    · rcases cases' b with ⟨h, q⟩ | ⟨m, q⟩ | q
      · subst h
        rw [q] at z; cases z
        exact ⟨ha, by rw [List.length_map]; exact hl, vs, _, rv, ha⟩
      · rw [q] at z; cases z
        exact (isT b m).1
      · rw [q] at z; cases z
    · rcases cases' b with ⟨h, q⟩ | ⟨m, q⟩ | q
      · subst h; rw [hk] at z; cases z
      · rw [(isT b m).2] at z; cases z
      · exact q
    · rcases cases' b with ⟨h, q⟩ | ⟨m, q⟩ | q
      · subst h
        have e := z.symm.trans ha
        rw [Option.some.inj e] at h1
        exact absurd rfl (h1 _ _)
      · rw [(isT b m).1] at z; exact absurd (Option.some.inj z).symm h2
      · exact q
end
/-- what is known of the law's def where its call begins -/
def LawAt (l : PySem.W.OpenLaw) (w : World) (K : PySem.W.Frag) (CX : CXT) (k n : Nat) (x : Str) (mg : Str → Option Value) (fa : Addr) (h : Heap) : Prop :=
  ∃ (fd : FuncData) (cs : List Ct) (sp : Heap → SpS), (∀ p ∈ cs, CsOk K h p) ∧ (∀ (s : Shared) (u : Value), BindsTo s fd ⟨[u], []⟩ [(x, u)]) ∧
    (∀ (base : Heap) (s : Shared) (H S : Hp) (a : Addr) (ns : List Int), ns.length ≤ n → (∀ z ∈ ns, Builtin.Int.intBits z ≤ 1048576) → (∀ b, S b ≠ none → H b = S b) → (∀ b o, S b = some o → NT o) → (∀ p ∈ cs, H p.2.1 = some (.tbl #[])) → SqL K S a (ns.map V.int) → sp base callerA [] s [.ref a] H (fun v _ => v = .bl true) fun _ _ _ => False) ∧
    ∀ base : Heap, K.In base → base.Ns mainGlobals mg → (∀ p ∈ cs, LamX.TabB base mg p.1 p.2.1) → FnG l.prog w K mg base CX k fa fd [x] (sp base)
/-- the tables of the text's defs -/
def TabF (q : Program) (K : PySem.W.Frag) (h : Heap) : Prop := ∀ (x : Str) (c P : Addr), (∃ d, (recsOf q).find? (fun e => e.name == x) = some d) → PySem.W.tabIn K x = some (c, P) → PySem.W.CodeHd h c P ∧ h.get? P = some (PySem.W.tabObj #[])
/-- a law from its def's promise -/
theorem walk_ofG {l : PySem.W.OpenLaw} {n k : Nat} {q : Program} {loose : List Str} {XP : (Str → Option Value) → Heap → Prop} {YP : World → Heap → Prop} {d : DefRec} {K : Params → PySem.W.Frag} {CX : World → CXT} {x : Str}
    (hn : l.most = some n) (hn2 : n ≤ sizeLine) (hdf : d.params.defaults = []) (hr : Room k callerA) (hY : ∀ (w : World) (h : Heap), YP w h → (K w.params).In h)
    (F : ∀ (w : World) (mg : Str → Option Value) (fa : Addr) (h : Heap), (K w.params).In h → h.Ns mainGlobals mg → TabF q (K w.params) h → mg d.name = some (.ref fa) → LawAt l w (K w.params) (CX w) k n x mg fa h)
    (hCX : ∀ (w : World) (H : Hp) (s : Shared) (e : Value) (s' : Shared), CX w [] H s (fun _ _ _ => False) e s' → False) :
    PySem.W.WalkO q loose XP YP l.row.toRowW d [] (fun f vs => PySem.call f vs) := by
  refine Att.attach_callB hn hdf fun w s₀ s₁ mg mb fa o pm cd doc a vs ns G Y ho hd hcd hmg hobj hints hlen hbits hg => ?_
  obtain ⟨fd, cs, sp, hC, hb, hsp, hF⟩ := F w mg fa _ (hY w _ Y) G.T.g (fun x c P ⟨d, hd⟩ ht => PySem.W.tab_of G.T (hY w _ Y) hd ht) hmg
  refine law_callG (sp := fun A o s vs H Q E => ∀ b, sp b A o s vs H Q E) (hY w _ Y) G.T.g G.T.b G.T.builtins G.T.nolimit hg hC G.T.bmain hobj hints (Nat.le_trans hlen hn2) hr (fun base h1 h2 h3 => ?_) hb (fun H S h1 h2 h3 h4 b => hsp b s₁ H S a ns hlen hbits h1 h2 h3 h4) fun H e s' => hCX w H s₁ e s'
  have f := hF base h1 h2 h3
  exact ⟨fun A o s vs H Q E q => f.len A o s vs H Q E (q base), fun A outer s H args us vs Q E hr hgd e0 hb r q => f.run A outer s H args us vs Q E hr hgd e0 hb r (q base)⟩
/-- the script as a datum -/
theorem spC_law {cs : List Ct} {P : Program} {w : World} {K : PySem.W.Frag} {mg : Str → Option Value} {base : Heap} {cl : Cl0} {f : Str} {ns : List Int} {H S : Hp} {a : Addr} {A : Around} {s : Shared} (h1 : ∀ b, S b ≠ none → H b = S b) (h2 : ∀ b o, S b = some o → NT o) (h3 : ∀ p ∈ cs, H p.2.1 = some (.tbl #[]))
    (hs : SqL K S a (ns.map V.int)) (hc : ∃ outs, cl f [.lst .ext (ns.map .int)] = .ok (.bl true, outs)) : @spC (tabsI cs) P w K mg base cl f A [] s [.ref a] H (fun v _ => v = .bl true) fun _ _ _ => False := by
  obtain ⟨outs, hc⟩ := hc
  letI : TabsC := tabsI cs
  have intsR : ∀ (me : Me) (ns : List Int), ReL K me S H (ns.map D.int) (ns.map V.int) [] := fun me ns => by
    induction ns with
    | nil => simp [ReL]
    | cons i r ih =>
      simp only [List.map_cons, ReL]
      exact ⟨V.int i, _, [], [], rfl, rfl, by simp [Rep], ih⟩
  refine ⟨{ K := K, of := mg, clo := none }, [.lst .ext (ns.map .int)], S, [], ⟨rfl, fun x a _ h => h⟩, fun z => absurd rfl z, ⟨fun b o e => by rw [h1 b (by rw [e]; simp)]; exact e, ?_, .nil, fun a z => absurd z (by simp), h2, ⟨fun p hp => ?_, fun p hp => absurd hp (by simp)⟩, fun b o e => nomatch e⟩, ?_⟩
  · simp only [List.map_cons, List.map_nil, EL]
    refine ⟨.ref a, [], [], [], rfl, rfl, ?_, rfl, rfl⟩
    simp only [Rep]
    exact ⟨trivial, a, _, rfl, hs, intsR _ ns⟩
  · obtain ⟨c, hc, e⟩ := List.mem_map.mp hp
    rw [← e]
    exact LamX.TabS.nil (h3 c hc)
  · rw [hc]
    intro v H' F' A' as st S r nd dj
    simp only [Rep] at r
    exact r.1
end Ev

set_option Elab.async false
set_option linter.all false
set_option maxRecDepth 100000
set_option maxHeartbeats 4000000
/-! EvI: an error class whose __init__ says super().__init__("..") and self.f = value. -/
namespace Ev
open PySem L2 PySem.Spec PySem.Calls
open PySem.W (Frag ksFn ksEnv KxsFacts excInitIn excOver excInit_of findIn typeIn subIn keepIn codeIn clsIn mroIn nsIn takerIn hasDictIn ks_superIn excObj excTup InstAt ks_superObj kxs_mw looks_clsIn)
open PyProof.Rows hiding St

/-- the object's dict is made, the first value is kept -/
theorem osa_first {prog : Program} {w : World} {A : Around} {K : Frag} {x C t : Addr} {B : String} {bmB : List Value} {name : Str} {tk : Tok} {v : Value} {R : Result → Shared → Prop} {s : Shared} (SF : StoreFacts B bmB "object.__setattr__" "object") (X : K.In s.heap)
    (hx : s.heap.get? x = some (excObj C t none .none)) (ov : excOver K C bmB = true) (ht : takerIn K C name = some none) (hd : hasDictIn K C = true)
    (h : ∀ h' tk' dx, (∀ b o, b ≠ x → s.heap.get? b = some o → h'.get? b = some o) → s.heap.objs.size ≤ dx → dx ≠ x → h'.get? x = some (excObj C t (some dx) .none) → h'.Ns1 dx (fun y => if y = name then some v else none) → R (.ok (.ret .none)) { s with heap := h', toks := tk' }) :
    codeAny (model prog w) A (.call (.builtin "object.__setattr__") ⟨[.ref x, .str name tk, v], []⟩) R s := by
  have hxs : x < s.heap.objs.size := Heap.lt_size hx
  obtain ⟨cd, hc, hcd⟩ := PySem.W.any_some hd
  refine PySem.W.osa_openX (od := none) SF X ⟨hx, rfl, rfl, trivial⟩ ov ht fun b => ?_
  refine wpAny_bind (wpAny_pure (wpAny_bind (PySem.W.instanceDict_exc hx (looks_clsIn X hc) hcd ?_)))
  show wpAny _ _ (Builtin.ObjectAttr.storeInDict s.heap.objs.size (.str name tk) name v) _ _ _
  have hne : s.heap.objs.size ≠ x := Nat.ne_of_gt hxs
  obtain ⟨hh, g, d, tt, os⟩ := s
  refine PySem.HandSPX.store_in_new ⟨_, #[], _, (Heap.get?_update_ne _ _ _ _ hne).trans (Heap.get?_push_at rfl rfl), rfl, fun e he => absurd he (by simp), fun _ => rfl⟩ fun h' tk' hn hs => ?_
  have hx1 : (hh.push (PySem.W.dictOf [] 0)).get? x = some (excObj C t none .none) := Heap.get?_push_of_some _ hx
  exact h h' tk' _ (fun b o hb ho => (hs.2 b (Nat.ne_of_lt (Heap.lt_size ho))).trans ((Heap.get?_update_ne _ _ _ _ hb).trans (Heap.get?_push_of_some _ ho))) (Nat.le_refl _) hne ((hs.2 x (Ne.symm hne)).trans (Heap.get?_update_self _ hx1 rfl)) hn

section
variable {prog : Program} {w : World} {A : Around} {K : Frag} {mg mb : Str → Option Value} {R : Result → Shared → Prop} {s : Shared} {h₀ : Heap}
variable {e C fI cda cc t0 : Addr} {B newId initId : String} {bmB : List Value} {f nm qual txt slf val : Str} {scope : Scope} {params : Arguments} {j : Nat} {p1 p2 p3 p4 p5 p6 p7 p8 p9 p10 : Pos} {dV kV doc pm ct oc ccl cl : Value} {an od cdd cld : Option Addr} {osl ccs csl : Array (Option Value)}
  {vs : Array Value} {file : Str} {tf : Tok} {ar : Arg} {u : Value} {cdC : ClassData}
/-- super().__init__("..") and self.f = value -/
abbrev supBody (f txt slf val : Str) (j : Nat) (p1 p2 p3 p4 p5 p6 p7 p8 p9 p10 : Pos) : List Stmt :=
  [.Expr (.Call (.Attribute (.Call (.Name "super" p1) [] [] p2) "__init__" p3) [.Constant (.str txt) j p4] [] p5) p6, .Assign [.Attribute (.Name slf p7) f p8] (.Name val p9) p10]
theorem init_run (FB : ExcBaseFacts B newId initId bmB) (KF : KxsFacts B initId) (SF : StoreFacts B bmB "object.__setattr__" "object")
    (X₀ : K.In h₀) (G : h₀.Ns mainGlobals mg) (Bn : h₀.Ns builtinsNs mb) (hmb : ∀ x : Str, x ≠ "__name__" → mb x = bootBuiltins x) (hsup : mg "super" = none) (lim : s.heap.NoLimit)
    (k1 : ∀ b o, h₀.get? b = some o → s.heap.get? b = some o) (k2 : ∀ b o, b ≠ e → s.heap.get? b = some o → h₀.get? b = some o) (k3 : h₀.get? e = none) (k4 : h₀.objs.size ≤ s.heap.objs.size) (hx : s.heap.get? e = some (excObj C t0 none .none))
    (q : excInitIn K C bmB newId = true) (ov : excOver K C bmB = true)
    (lk : K.lookup fI = some ⟨oc, od, .func (ksFn nm qual params (supBody f txt slf val j p1 p2 p3 p4 p5 p6 p7 p8 p9 p10) scope dV kV doc pm an (.ref cda) ct cc), osl⟩) (hcd : codeIn K (.ref cda) qual = true)
    (hk : scope.kind = .function) (hco : scope.isCoroutine = false) (hgen : scope.isGenerator = false) (hcell : ∀ x ∈ scope.names, x.2 ≠ .cell) (hself : scope.names.lookup slf = some .local) (hval : scope.names.lookup val = some .local) (hsv : (val == slf) = false)
    (hks : scope.names.lookup ("super" : Str) = some .globalImplicit) (hkc : scope.names.lookup ("__class__" : Str) = some .free) (hsd : (slf == ("__debug__" : Str)) = false) (hvd : (val == ("__debug__" : Str)) = false)
    (hpar : (params.posonlyargs ++ params.args).head? = some ar) (har : ar.arg = slf) (hbind : ∀ s a b, BindsTo s (ksFn nm qual params (supBody f txt slf val j p1 p2 p3 p4 p5 p6 p7 p8 p9 p10) scope dV kV doc pm an (.ref cda) ct cc) ⟨[a, b], []⟩ [(slf, a), (val, b)])
    (hcode : K.lookup cda = some ⟨ccl, cdd, .fields vs, ccs⟩) (hvs : vs[2]? = some (.str file tf)) (hfile : ((prog.main.file : Str) == file) = true) (htop : (prog.main.scope.names.lookup ("super" : Str)).isSome = false)
    (hcc : K.lookup cc = some ⟨cl, cld, .cell (some (.ref C)), csl⟩) (hD : clsIn K C = some cdC) (hsub : mroIn K C (.ref C) = some true) (hst : nsIn K cStatics "thirdparty.any" = some none)
    (hsi : ks_superIn K C C "__init__" = some (some (.builtin initId))) (hB : subIn K (.ref C) (.type B) = some true) (sa : findIn K (.ref C) "__setattr__" = some (some (.builtin "object.__setattr__"))) (tk : takerIn K C f = some none) (hd : hasDictIn K C = true)
    (hev : ∀ L : Addr, ∃ pl, eval (.Call (.Attribute (.Call (.Name "super" p1) [] [] p2) "__init__" p3) [.Constant (.str txt) j p4] [] p5) (ksEnv qual scope L fI (.ref cda) cc) = (do
      let ov ← attributeBase (.Call (.Name "super" p1) [] [] p2) "__init__" (ksEnv qual scope L fI (.ref cda) cc) (eval (.Call (.Name "super" p1) [] [] p2) (ksEnv qual scope L fI (.ref cda) cc))
      standAt p3.atName
      let (f, first) ← holding [ov] (getMethod ov "__init__" pl)
      callWith p5 f first (backTo p5 (starEach [.Constant (.str txt) j p4] (ksEnv qual scope L fI (.ref cda) cc))) []))
    (hroom : A.depth < recursionLimit)
    (hR : ∀ h' tk' t' dx, (∀ b o, b ≠ e → s.heap.get? b = some o → h'.get? b = some o) → s.heap.objs.size ≤ dx → dx ≠ e → h'.get? e = some (excObj C t' (some dx) .none) → h'.Ns1 dx (fun y => if y = f then some u else none) → R (.ok (.ret .none)) { s with heap := h', toks := tk' }) :
    codeAny (model prog w) A (.call (.ref fI) ⟨[.ref e, u], []⟩) R s := by
  have KX : K.In s.heap := X₀.keeps k1
  refine ks_codeAny_call_defAt (fd := ksFn nm qual params (supBody f txt slf val j p1 p2 p3 p4 p5 p6 p7 p8 p9 p10) scope dV kV doc pm an (.ref cda) ct cc) (body := supBody f txt slf val j p1 p2 p3 p4 p5 p6 p7 p8 p9 p10) (binds := [(slf, .ref e), (val, u)])
    hroom (KX _ _ lk) rfl lim (PySem.W.codeRec_of KX hcd) rfl (hbind _ _ _) hcell (fun y hy => ?_) (fun h₁ hns hk₁ => ?_) hco hgen hk
  · rcases List.mem_cons.mp hy with z | z
    · rw [z]; exact hself
    · rcases List.mem_cons.mp z with z | z
      · rw [z]; exact hval
      · exact absurd z (by simp)
  have KX₁ : K.In h₁ := KX.keeps hk₁
  have hm : ∀ x : Str, ([(slf, Value.ref e), (val, u)] : List (Str × Value)).reverse.lookup x = if x = val then some u else if x = slf then some (.ref e) else none := fun x => by
    simp only [List.reverse_cons, List.reverse_nil, List.nil_append, List.cons_append, List.lookup_cons, List.lookup_nil]
    by_cases h1 : x = val
    · subst h1; simp
    · have z : (x == val) = false := by simpa using h1
      rw [z, if_neg h1]
      by_cases h2 : x = slf
      · subst h2; simp
      · have z : (x == slf) = false := by simpa using h2
        rw [z, if_neg h2]
  have F1 : Fr h₀ s.heap.objs.size h₁ (fun x => ([(slf, Value.ref e), (val, u)] : List (Str × Value)).reverse.lookup x) := ⟨hns, fun b o z => hk₁ b o (k1 b o z), k4⟩
  have hes : e < s.heap.objs.size := Heap.lt_size hx
  have N1 : News h₀ s.heap.objs.size h₁ [(e, excObj C t0 none .none)] := fun p hp => by
    rcases List.mem_cons.mp hp with z | z
    · subst z
      exact ⟨hk₁ _ _ hx, Nat.ne_of_lt hes, k3⟩
    · exact absurd z (by simp)
  obtain ⟨oC, hC1, hC2⟩ : ∃ oC, h₁.get? C = some oC ∧ oC.data = .cls cdC := by
    unfold PySem.W.clsIn at hD
    split at hD
    · rename_i c d cd' sl ho
      cases hD
      exact ⟨_, KX₁ _ _ ho, rfl⟩
    · cases hD
  have I1 : InstAt h₁ e (excObj C t0 none .none) C none := ⟨hk₁ _ _ hx, rfl, rfl, trivial⟩
  have hint : interactive (ksEnv qual scope s.heap.objs.size fI (.ref cda) cc) = false := by
    simp [interactive, hk]
  refine ks_wpAt_execs_cons (ks_wpAt_Expr_any ?_ hint rfl)
  have hbs : mb "super" = some (.type "super") := (hmb "super" (by decide)).trans (by kernel_rfl)
  obtain ⟨pl, hpl⟩ := hev s.heap.objs.size
  refine ks_wpAt_MethodCall ?_ hpl
  refine ks_wpAt_super_base (env := ksEnv qual scope s.heap.objs.size fI (.ref cda) cc) hks hkc rfl rfl (KX₁ _ _ lk) rfl hpar rfl (KX₁ _ _ hcode) rfl hvs hfile htop ?_
  refine PySem.W.ks_loadName_global hk hks (loadGlobal_builtin (env := ksEnv qual scope s.heap.objs.size fI (.ref cda) cc) (G.keeps F1.keep) hsup (Bn.keeps F1.keep) hbs ⟨rfl, ?_⟩)
  refine wpAny_loadName_free hk hkc rfl ⟨_, KX₁ _ _ hcc, rfl⟩ ?_
  refine wpAny_loadName_local hk (show scope.names.lookup ar.arg = some .local by rw [har]; exact hself) F1.ns (show _ = some (Value.ref e) by rw [hm, har, if_neg (by intro z; rw [z] at hsv; simp at hsv), if_pos rfl]) ?_
  refine ks_wpAny_isType_cls hC1 hC2 ⟨rfl, ?_⟩
  refine ks_wpAny_call_super hC1 hC2 I1.at_ I1.cls (fun c z => by cases z) (PySem.W.looks_mroIn KX₁ hsub) (fun h2 e2 kk2 => ?_)
  obtain ⟨F2, N2, l2⟩ := PySem.W.ks_newsPush (s := { s with heap := h₁, toks := s.toks + 2 }) F1 N1 rfl e2 kk2
  have KX₂ : K.In h2 := X₀.keeps F2.keep
  have I2 : InstAt h2 e (excObj C t0 none .none) C none := ⟨(N2 _ (.tail _ (.head _))).1, rfl, rfl, trivial⟩
  refine PySem.W.kxs_method KF F2 X₀ N2 (.head _) I2 hst hsi hB rfl fun b h3 F3 N3 l3 => ?_
  refine PySem.W.kxs_callWith1 (i := initId) (x := e) N3 (.head _) (e := .Constant (.str txt) j p4) (rest := []) (env := ksEnv qual scope s.heap.objs.size fI (.ref cda) cc) (spliced_cons (wpAny_Constant_str (k := j) (pos := p4) (spliced_nil ⟨PySem.W.kxs_at N3 (.head _), ?_⟩))) rfl rfl
  have d1 := l3 _ (.head _)
  have d2 := l3 _ (.tail _ (.head _))
  have d3 := l2 _ (.head _)
  refine PySem.W.kxs_call F3 X₀ N3 FB q (.head _) (.tail (Nat.ne_of_gt d2) (.tail (Nat.ne_of_gt d3) (.head fun _ z => nomatch z))) (by show 1 ≤ sizeLine; rw [sizeLine_eq]; decide) fun t4 h4 F4 N4 l4 => ?_
  have hx4 : h4.get? e = some (excObj C t4 none .none) := (N4 _ (.tail _ (.tail _ (.tail _ (.head _))))).1
  refine ks_wpAt_execs_cons (ks_wpAt_Assign_Attr ?_ rfl)
  have mv : ([(slf, Value.ref e), (val, u)] : List (Str × Value)).reverse.lookup val = some u := by rw [hm, if_pos rfl]
  have ms : ([(slf, Value.ref e), (val, u)] : List (Str × Value)).reverse.lookup slf = some (Value.ref e) := by rw [hm, if_neg (by intro z; rw [z] at hsv; simp at hsv), if_pos rfl]
  refine PySem.wpAt_of_wpAny ?_
  refine wpAny_Name ?_ hvd
  refine wpAny_loadName_local hk hval F4.ns mv ?_
  refine wpAny_Name ?_ hsd
  refine wpAny_loadName_local hk hself F4.ns ms ?_
  have KX₄ : K.In h4 := X₀.keeps F4.keep
  refine PySem.W.set_plain (od := none) KX₄ (ox := excObj C t4 none .none) ⟨hx4, rfl, rfl, trivial⟩ sa (osa_first SF KX₄ hx4 ov tk hd fun h5 tk5 dx k5 g5 n5 x5 ns5 => ?_)
  show PySem.wpAt _ _ _ (execs [] _) _ _ _
  refine PySem.wpAt_of_wpAny ?_
  refine wpAny_execs_nil ?_
  have hsz : s.heap.objs.size ≤ h4.objs.size := by
    obtain ⟨o, es, ep, z, _⟩ := F4.ns
    exact Nat.le_of_lt (Heap.lt_size z)
  exact hR h5 tk5 t4 dx (fun b o hb ho => k5 b o hb (F4.keep b o (k2 b o hb ho))) (Nat.le_trans hsz g5) n5 x5 ns5
end
/-- how an error that keeps one value is made -/
def ExO (P : Program) (K : Frag) (mg : Str → Option Value) (c f : Str) : Prop := c ≠ lamN ∧ ∃ C, mg c = some (.ref C) ∧ ∀ (X : Cx) (k : Nat), X.prog = P → X.K = K → X.mg = mg → Gl X c → Room k X.A → X.A.guards = some [] → X.calm = true → ∀ (a : Expr) (t : TE) (p pos : Pos), noStar [a] = true → PE X a t →
  PMk X (.Call (.Name c p) [a] [] pos) (fun σ H Q => t σ H fun v H1 => ∀ dd, H1 dd = none → Q (.ref C) (some dd) (upd H1 dd (.xd [(f, v)])))
theorem hp_kept {H1 : Hp} {e C dx : Addr} {f : Str} {v : V} (h1 : H1 e = none) (h2 : dx ≠ e) : upd (del (upd (upd H1 dx (exd dx [(f, v)])) e (exo e C (some dx))) e) dx (.xd [(f, v)]) = upd H1 dx (.xd [(f, v)]) := by
  funext b
  by_cases hb : b = dx
  · subst hb; rw [upd_same, upd_same]
  · rw [upd_ne hb, upd_ne hb]
    by_cases he : b = e
    · subst he; rw [del_same, h1]
    · rw [del_ne he, upd_ne he, upd_ne hb]
section
variable {P : Program} {K : Frag} {mg : Str → Option Value}
variable {C fI cda cc : Addr} {B newId initId : String} {bmB : List Value} {c f nm qual txt slf val : Str} {scope : Scope} {params : Arguments} {j : Nat} {p1 p2 p3 p4 p5 p6 p7 p8 p9 p10 : Pos} {dV kV doc pm ct oc ccl cl : Value} {an od cdd cld : Option Addr} {osl ccs csl : Array (Option Value)}
  {vs : Array Value} {file : Str} {tf : Tok} {ar : Arg} {cdC : ClassData}
theorem exO_mk (FB : ExcBaseFacts B newId initId bmB) (KF : KxsFacts B initId) (SF : StoreFacts B bmB "object.__setattr__" "object") {h : Heap} (XK : K.In h) (GN : h.Ns mainGlobals mg) (aC : nsIn K mainGlobals c = some (some (.ref C))) (hsup : mg "super" = none) (hcl : c ≠ lamN) (hdb : (c == ("__debug__" : Str)) = false)
    (kC : keepIn K (.ref C) = true) (exC : subIn K (.ref C) (.type "BaseException") = some true) (tyC : typeIn K (.ref C) = some (.type "type")) (iC : findIn K (.ref C) "__init__" = some (some (.ref fI))) (tI : typeIn K (.ref fI) = some (.type "function"))
    (lk : K.lookup fI = some ⟨oc, od, .func (ksFn nm qual params (supBody f txt slf val j p1 p2 p3 p4 p5 p6 p7 p8 p9 p10) scope dV kV doc pm an (.ref cda) ct cc), osl⟩)
    (q : excInitIn K C bmB newId = true) (ov : excOver K C bmB = true) (hcd : codeIn K (.ref cda) qual = true)
    (hk : scope.kind = .function) (hco : scope.isCoroutine = false) (hgen : scope.isGenerator = false) (hcell : ∀ x ∈ scope.names, x.2 ≠ .cell) (hself : scope.names.lookup slf = some .local) (hval : scope.names.lookup val = some .local) (hsv : (val == slf) = false)
    (hks : scope.names.lookup ("super" : Str) = some .globalImplicit) (hkc : scope.names.lookup ("__class__" : Str) = some .free) (hsd : (slf == ("__debug__" : Str)) = false) (hvd : (val == ("__debug__" : Str)) = false)
    (hpar : (params.posonlyargs ++ params.args).head? = some ar) (har : ar.arg = slf) (hbind : ∀ s a b, BindsTo s (ksFn nm qual params (supBody f txt slf val j p1 p2 p3 p4 p5 p6 p7 p8 p9 p10) scope dV kV doc pm an (.ref cda) ct cc) ⟨[a, b], []⟩ [(slf, a), (val, b)])
    (hcode : K.lookup cda = some ⟨ccl, cdd, .fields vs, ccs⟩) (hvs : vs[2]? = some (.str file tf)) (hfile : ((P.main.file : Str) == file) = true) (htop : (P.main.scope.names.lookup ("super" : Str)).isSome = false)
    (hcc : K.lookup cc = some ⟨cl, cld, .cell (some (.ref C)), csl⟩) (hD : clsIn K C = some cdC) (hsub : mroIn K C (.ref C) = some true) (hst : nsIn K cStatics "thirdparty.any" = some none)
    (hsi : ks_superIn K C C "__init__" = some (some (.builtin initId))) (hB : subIn K (.ref C) (.type B) = some true) (sa : findIn K (.ref C) "__setattr__" = some (some (.builtin "object.__setattr__"))) (tk : takerIn K C f = some none) (hd : hasDictIn K C = true)
    (hev : ∀ L : Addr, ∃ pl, eval (.Call (.Attribute (.Call (.Name "super" p1) [] [] p2) "__init__" p3) [.Constant (.str txt) j p4] [] p5) (ksEnv qual scope L fI (.ref cda) cc) = (do
      let ov ← attributeBase (.Call (.Name "super" p1) [] [] p2) "__init__" (ksEnv qual scope L fI (.ref cda) cc) (eval (.Call (.Name "super" p1) [] [] p2) (ksEnv qual scope L fI (.ref cda) cc))
      standAt p3.atName
      let (f, first) ← holding [ov] (getMethod ov "__init__" pl)
      callWith p5 f first (backTo p5 (starEach [.Constant (.str txt) j p4] (ksEnv qual scope L fI (.ref cda) cc))) [])) : ExO P K mg c f := by
  have hm : mg c = some (.ref C) := PySem.W.mg_of XK GN aC
  refine ⟨hcl, C, hm, fun X k eP eK eM hg hr hgd hcalm a t p pos hn ha => ?_⟩
  subst eP eK eM
  intro pins s σ H Q I h
  refine wpAny_Call_Name_kw (ld_glob I hg hm ?_ hdb)
  letI : TabsC := ⟨[]⟩
  obtain ⟨st1, st2⟩ := star_cons (env := X.env) hn
  have hA : PA X [a] (tCons t tNil) := pa_cons ha pa_nil st1
  refine PySem.W.callWith_K (h₀ := X.base) I.ok.mod.kin kC (thn (hA.run pos pins s σ H (fun vs H1 => match vs with | [v] => ∀ dd, H1 dd = none → Q (.ref C) (some dd) (upd H1 dd (.xd [(f, v)])) | _ => False) I h) fun us s1 hh => ?_) st1 (star_any st2)
  obtain ⟨ws, H1, I1, r1, q1⟩ := hh
  refine ⟨I1.kIn, ?_⟩
  match ws, us, r1, q1 with
  | [], _, _, q1 => exact q1.elim
  | _ :: _ :: _, _, _, q1 => exact q1.elim
  | [v], [u], .cons rv .nil, q1 =>
    obtain ⟨nm', N', qn', bs, bm, hdct, sn, sub, ab, col, dd, k0, k1, k2, k3, k5, hC, hT⟩ := excInit_of I1.kIn q
    have Gm := I1.mod.glob.keeps I1.bk
    obtain ⟨mb, Bn, hmb⟩ := I1.mod.blt
    have Bm := Bn.keeps I1.bk
    have lim1 := I1.nolimit
    obtain ⟨hp, g, dr, tk1, os⟩ := s1
    have hsz : hp.objs.size ≤ hp.objs.size + 1 := Nat.le_succ _
    have kp : ∀ b o, hp.get? b = some o → (hp.push (PySem.W.kdv_tup [u])).get? b = some o := fun b o z => Heap.get?_push_of_some _ z
    have kk : ∀ b o, hp.get? b = some o → ((hp.push (PySem.W.kdv_tup [u])).push (PySem.HandSPX.excO C hp.objs.size)).get? b = some o := fun b o z => Heap.get?_push_of_some _ (kp b o z)
    have hget : ((hp.push (PySem.W.kdv_tup [u])).push (PySem.HandSPX.excO C hp.objs.size)).get? (hp.objs.size + 1) = some (PySem.HandSPX.excO C hp.objs.size) := by heap_get
    have hn1 : H1 (hp.objs.size + 1) = none := I1.hok.fresh hsz
    refine wpAny_call (PySem.HandSPX.call_own FB hT hC (PySem.W.looks_findIn I1.kIn iC) (fun self => PySem.W.bind_fn I1.kIn self tI) (by show 1 ≤ sizeLine; rw [sizeLine_eq]; decide)
      (init_run (t0 := hp.objs.size) (h₀ := hp.push (PySem.W.kdv_tup [u])) FB KF SF (I1.kIn.keeps kp) (Gm.keeps kp) (Bm.keeps kp) hmb hsup (lim1.keeps kk) (fun b o z => Heap.get?_push_of_some _ z) (fun b o hb z => ?_) ?_ ?_ hget q ov lk hcd hk hco hgen hcell hself hval hsv hks hkc hsd hvd hpar har hbind hcode hvs hfile htop hcc hD hsub hst hsi hB sa tk hd hev
        (by have := hr.dp; rw [make_depth]; omega) fun h' tk' t' dx kp' gd nd hx' hns => ⟨rfl, ?_⟩))
    · rcases Heap.get?_push_cases z with ⟨z1, _⟩ | z1
      · exact absurd (z1.trans (by simp)) hb
      · exact z1
    · cases z : (hp.push (PySem.W.kdv_tup [u])).get? (hp.objs.size + 1) with
      | none => rfl
      | some o =>
        have z1 := Heap.lt_size z
        simp at z1
    · simp
    · have hdn : H1 dx = none := I1.hok.fresh (Nat.le_trans (by simp; omega) gd)
      have q2 := q1 dx hdn
      rw [← hp_kept (C := C) hn1 nd] at q2
      have ee : upd H1 (hp.objs.size + 1) (exo (hp.objs.size + 1) C none) (hp.objs.size + 1) = some (exo (hp.objs.size + 1) C none) := upd_same
      have na : ∀ {b : Addr}, upd H1 (hp.objs.size + 1) (exo (hp.objs.size + 1) C none) b = none → b ≠ hp.objs.size + 1 := fun {b} n z => by
        rw [z, ee] at n; cases n
      have ndx : ∀ {b : Addr} {o : Obj}, ((hp.push (PySem.W.kdv_tup [u])).push (PySem.HandSPX.excO C hp.objs.size)).get? b = some o → b ≠ dx := fun {b o} z => Nat.ne_of_lt (Nat.lt_of_lt_of_le (Heap.lt_size z) gd)
      have dn : upd H1 (hp.objs.size + 1) (exo (hp.objs.size + 1) C none) dx = none := by rw [upd_ne nd]; exact hdn
      have ne2 : ∀ {b : Addr}, b ≠ hp.objs.size + 1 → upd H1 (hp.objs.size + 1) (exo (hp.objs.size + 1) C none) b = H1 b := fun h => upd_ne h
      have to2 : ∀ {b : Addr}, b ≠ hp.objs.size + 1 → b ≠ dx → upd (upd H1 dx (exd dx [(f, v)])) (hp.objs.size + 1) (exo (hp.objs.size + 1) C (some dx)) b = H1 b := fun h1 h2 => by rw [upd_ne h1, upd_ne h2]
      have some2 : ∀ {b : Addr} {x : HO}, upd H1 (hp.objs.size + 1) (exo (hp.objs.size + 1) C none) b = some x → x ≠ exo (hp.objs.size + 1) C none → b ≠ hp.objs.size + 1 ∧ b ≠ dx := fun {b x} z ne => ⟨fun y => by rw [y, ee] at z; exact ne (Option.some.inj z).symm, fun y => by rw [y, dn] at z; cases z⟩
      refine mk_end (d2 := dr) (t2 := tk') (raises_own exC tyC) I1 hsz kk {
        keep := fun b o z n _ _ => kp' b o (na n) z
        slot := fun b o z n _ _ => ⟨o.slots, kp' b o (na n) z⟩
        free := fun b o z n _ => by rw [to2 (na n) (ndx z), ← ne2 (na n)]; exact n
        there := fun b o z _ => by
          by_cases hb : b = hp.objs.size + 1
          · exact ⟨_, by rw [hb]; exact hx'⟩
          · exact ⟨o, kp' b o hb z⟩
        tups := fun b xs z => by
          obtain ⟨y1, y2⟩ := some2 z (fun y => exo_tup y.symm)
          rw [to2 y1 y2, ← ne2 y1]; exact z
        frzs := fun b o x z => by
          obtain ⟨y1, y2⟩ := some2 z (fun y => exo_frz y.symm)
          rw [to2 y1 y2, ← ne2 y1]; exact z
        tbls := fun b ps z => by
          obtain ⟨y1, y2⟩ := some2 z (fun y => exo_tbl y.symm)
          exact ⟨#[], by rw [to2 y1 y2, ← ne2 y1, z]; simp⟩ } (fun b o z => ?_) rfl I1.bare upd_same (by rw [upd_ne nd, upd_same]) hdn q2
      by_cases hb : b = hp.objs.size + 1
      · subst hb
        rw [upd_same] at z
        cases z
        exact exo_ok hx'
      · rw [upd_ne hb] at z
        by_cases hd2 : b = dx
        · subst hd2
          rw [upd_same] at z
          cases z
          exact exd_ok hns (relO_put (fs := []) rv fun g => True.intro)
        · rw [upd_ne hd2] at z
          have old : ∀ {d : Addr} {x : HO}, H1 d = some x → d ≠ hp.objs.size + 1 ∧ d ≠ dx := fun {d x} y => ⟨ne_of_none y hn1, ne_of_none y hdn⟩
          refine (I1.hok b o z).stay (fun d x hc y => ?_) (fun d hc => ?_) fun d xs hc => ?_
          · refine kp' d x ?_ (kk _ _ y)
            rcases hc with hc | hc
            · rw [hc]; exact hb
            · exact (old hc).1
          · rw [to2 (old hc).1 (old hc).2]; exact hc
          · rw [to2 (old hc).1 (old hc).2]; exact hc
end
end Ev

set_option Elab.async false
set_option linter.all false
set_option maxRecDepth 100000
set_option maxHeartbeats 4000000
/-! Ev32: from what stands behind the top to the law. -/
namespace Ev
open PySem L2 PySem.Spec

/-- what the text says of a def -/
structure DfS (df : Df) (nm qual : Str) (ps : List Str) : Prop where
  S : FnScope df.N ps (defScope df.st)
  np : ps.length = df.np
  nn : ∀ x ∈ df.N, (x == ("__debug__" : Str)) = false ∧ (x == ("__classdict__" : Str)) = false
  hb : ∀ (kV doc pm : Value) (an : Option Addr) (cdv ct : Value) (us : List Value), us.length = ps.length → bindArgs (PySem.W.fnOf nm qual (defArgs df.st) (defBody df.st) (defScope df.st) .none kV doc pm an cdv ct) ⟨us, []⟩ = pure (ps.zip us)
section
variable [TabsC]
variable {P : Program} {w : World} {K : PySem.W.Frag} {h base : Heap} {mg : Str → Option Value} {M : Gb} {T : List (Str × Df)}
theorem dfOk_mk (X : K.In h) (G : h.Ns mainGlobals mg) {f nm qual : Str} {df : Df} {fa : Addr} {ps : List Str} {oc : Value} {od an : Option Addr} {osl : Array (Option Value)} {kV doc pm cdv ct : Value} (s : DfS df nm qual ps)
    (a : PySem.W.nsIn K mainGlobals f = some (some (.ref fa))) (l : K.lookup fa = some ⟨oc, od, .func (PySem.W.fnOf nm qual (defArgs df.st) (defBody df.st) (defScope df.st) .none kV doc pm an cdv ct), osl⟩) (c : PySem.W.codeIn K cdv qual = true) (k : PySem.W.keepIn K (.ref fa) = true)
    (lam : df.lam = true → df.clo = false ∧ ∃ c P, LamX.TabB base mg c P ∧ cdv = .ref c ∧ (P, (qual ++ ".<locals>.") ++ lamN) ∈ TabsC.T ∧ ∀ p ∈ TabsC.T, p.1 = P → p.2 = (qual ++ ".<locals>.") ++ lamN) :
    DfOk K mg base f df fa (PySem.W.fnOf nm qual (defArgs df.st) (defBody df.st) (defScope df.st) .none kV doc pm an cdv ct) ps :=
  ⟨PySem.W.mg_of X G a, k, (fun_mk l c k).binds s.hb, ⟨nm, qual, _, .none, kV, doc, pm, cdv, ct, oc, an, od, osl, rfl, l, c, fun h => (lam h).2⟩, s.S, s.np, s.nn, fun h => (lam h).1⟩
omit [TabsC] in
/-- how its parameters are bound -/
theorem bind_mk (X : K.In h) {f nm qual : Str} {df : Df} {fa : Addr} {ps : List Str} {oc : Value} {od an : Option Addr} {osl : Array (Option Value)} {kV doc pm cdv ct : Value} (s : DfS df nm qual ps) (a : PySem.W.nsIn K mainGlobals f = some (some (.ref fa)))
    (l : K.lookup fa = some ⟨oc, od, .func (PySem.W.fnOf nm qual (defArgs df.st) (defBody df.st) (defScope df.st) .none kV doc pm an cdv ct), osl⟩) (z : Shared) (us : List Value) (hl : us.length = ps.length) : BindsTo z (PySem.W.fnOf nm qual (defArgs df.st) (defBody df.st) (defScope df.st) .none kV doc pm an cdv ct) ⟨us, []⟩ (ps.zip us) :=
  .of_eq (s.hb _ _ _ _ _ _ us hl)
/-- every row of the table -/
def RowsOk (K : PySem.W.Frag) (mg : Str → Option Value) (base : Heap) : List (Str × Df) → Prop
  | [] => True
  | p :: r => (∃ fa fd ps, DfOk K mg base p.1 p.2 fa fd ps) ∧ RowsOk K mg base r
theorem row_of {f : Str} {df : Df} {fa : Addr} {fd : FuncData} {ps : List Str} (h : DfOk K mg base f df fa fd ps) : ∃ fa fd ps, DfOk K mg base f df fa fd ps := ⟨fa, fd, ps, h⟩
theorem RowsOk.get : ∀ {T : List (Str × Df)} {f : Str} {df : Df}, RowsOk K mg base T → T.lookup f = some df → ∃ fa fd ps, DfOk K mg base f df fa fd ps
  | [], f, df, _, h => by simp at h
  | p :: r, f, df, hr, h => by
    obtain ⟨x, d⟩ := p
    rw [List.lookup] at h
    split at h
    · rename_i q
      cases h
      rw [eq_of_beq q]
      exact hr.1
    · exact RowsOk.get hr.2 h
theorem tab_mk (mod : ModOk M P K mg) (rows : RowsOk K mg base T) (all : (M.defs.all fun f => (T.lookup f).isSome) = true) : TabOk M P T K mg base := ⟨mod, fun f hf => by
  have := List.all_eq_true.mp all f (List.contains_iff_mem.mp hf)
  obtain ⟨df, hd⟩ := Option.isSome_iff_exists.mp this
  obtain ⟨fa, fd, ps, hh⟩ := rows.get hd
  exact ⟨df, fa, fd, ps, hd, hh⟩⟩
end
section
variable {P : Program} {w : World} {K : PySem.W.Frag} {h base : Heap} {mg : Str → Option Value} {M : Gb} {T : List (Str × Df)}
/-- constants that are plain -/
def ConstsOk (K : PySem.W.Frag) (mg : Str → Option Value) : List (Str × D) → Prop
  | [] => True
  | p :: r => (∃ u v, mg p.1 = some u ∧ RelV v u ∧ owned p.2 = false ∧ ∀ (me : Me) F H, Rep K me F H p.2 v []) ∧ ConstsOk K mg r
theorem const_int {X : K.In h} {G : h.Ns mainGlobals mg} {x : Str} {i : Int} {t : Tok} (a : PySem.W.nsIn K mainGlobals x = some (some (.int i t))) : ∃ u v, mg x = some u ∧ RelV v u ∧ owned (D.int i) = false ∧ ∀ (me : Me) F H, Rep K me F H (D.int i) v [] :=
  ⟨_, .int i, PySem.W.mg_of X G a, ⟨t, rfl⟩, rfl, fun _ _ _ => by simp [Rep]⟩
theorem const_str {X : K.In h} {G : h.Ns mainGlobals mg} {x z : Str} {t : Tok} (a : PySem.W.nsIn K mainGlobals x = some (some (.str z t))) : ∃ u v, mg x = some u ∧ RelV v u ∧ owned (D.str z) = false ∧ ∀ (me : Me) F H, Rep K me F H (D.str z) v [] :=
  ⟨_, .str z, PySem.W.mg_of X G a, ⟨t, rfl⟩, rfl, fun _ _ _ => by simp [Rep]⟩
/-- a tuple of two ints -/
theorem const_two {X : K.In h} {G : h.Ns mainGlobals mg} {x : Str} {i j : Int} {t1 t2 : Tok} {ad : Addr} {n : Nat} {od : Option Addr} {osl : Array (Option Value)} (a : PySem.W.nsIn K mainGlobals x = some (some (.ref ad))) (b : K.lookup ad = some ⟨.type "tuple", od, .seq #[.int i t1, .int j t2] n, osl⟩) :
    ∃ u v, mg x = some u ∧ RelV v u ∧ owned (D.tup [.int i, .int j]) = false ∧ ∀ (me : Me) F H, Rep K me F H (D.tup [.int i, .int j]) v [] :=
  ⟨_, .ref ad, PySem.W.mg_of X G a, rfl, rfl, fun _ F _ => by
    simp only [Rep, ReL]
    exact ⟨trivial, ad, [.int i, .int j], rfl, .inr ⟨_, _, _, b, rfl, rfl, by show 2 ≤ sizeLine; decide, .cons ⟨t1, rfl⟩ (.cons ⟨t2, rfl⟩ .nil)⟩, _, _, [], [], rfl, rfl, ⟨rfl, rfl⟩, _, _, [], [], rfl, rfl, ⟨rfl, rfl⟩, rfl, rfl⟩⟩
theorem ConstsOk.get : ∀ {cs : List (Str × D)} {x : Str} {d : D}, ConstsOk K mg cs → cs.lookup x = some d → ∃ u v, mg x = some u ∧ RelV v u ∧ owned d = false ∧ ∀ (me : Me) F H, Rep K me F H d v []
  | [], x, d, _, h => by simp at h
  | p :: r, x, d, hc, h => by
    obtain ⟨y, c⟩ := p
    rw [List.lookup] at h
    split at h
    · rename_i q
      cases h
      rw [eq_of_beq q]
      exact hc.1
    · exact ConstsOk.get hc.2 h
def FreeOk (mg : Str → Option Value) : List Str → Prop
  | [] => True
  | x :: r => mg x = none ∧ FreeOk mg r
theorem FreeOk.get : ∀ {xs : List Str} {x : Str}, FreeOk mg xs → x ∈ xs → mg x = none
  | [], x, _, h => by simp at h
  | y :: r, x, hf, h => by
    rcases List.mem_cons.mp h with q | q
    · rw [q]; exact hf.1
    · exact FreeOk.get hf.2 q
def ModsOk (mg : Str → Option Value) : List (Str × Bl) → Prop
  | [] => True
  | p :: r => (mg p.1 = some (bval p.2) ∧ (p.1 == ("__debug__" : Str)) = false ∧ p.2 = .gcd) ∧ ModsOk mg r
theorem ModsOk.get : ∀ {xs : List (Str × Bl)} {x : Str} {b : Bl}, ModsOk mg xs → xs.lookup x = some b → mg x = some (bval b) ∧ (x == ("__debug__" : Str)) = false ∧ b = .gcd
  | [], x, b, _, h => by simp at h
  | p :: r, x, b, hc, h => by
    obtain ⟨y, c⟩ := p
    rw [List.lookup] at h
    split at h
    · rename_i q
      cases h
      rw [eq_of_beq q]
      exact hc.1
    · exact ModsOk.get hc.2 h
/-! ### errors -/
/-- a class without own __init__, raised with a text -/
def ExP (K : PySem.W.Frag) (mg : Str → Option Value) (c : Str) : Prop := c ≠ lamN ∧ ∃ C, mg c = some (.ref C) ∧ ∀ X : Cx, X.K = K → X.mg = mg → Gl X c → ∀ (m : Str) (j : Nat) (p p2 pos : Pos), PMk X (.Call (.Name c p) [.Constant (.str m) j p2] [] pos) (fun _ H Q => Q (.ref C) none H)
theorem exP_mk {c : Str} {C : Addr} {B newId initId : String} {bmB : List Value} (F : ExcBaseFacts B newId initId bmB) (X : K.In h) (G : h.Ns mainGlobals mg) (a : PySem.W.nsIn K mainGlobals c = some (some (.ref C))) (hcl : c ≠ lamN) (hdb : (c == ("__debug__" : Str)) = false) (q : PySem.W.excIn K C bmB newId = true)
    (kC : PySem.W.keepIn K (.ref C) = true) (e1 : PySem.W.subIn K (.ref C) (.type "BaseException") = some true) (e2 : PySem.W.typeIn K (.ref C) = some (.type "type")) : ExP K mg c :=
  ⟨hcl, C, PySem.W.mg_of X G a, fun X' eK eM hg m j p p2 pos => by
    subst eK
    exact pmk_own F q (by rw [eM]; exact PySem.W.mg_of X G a) kC (raises_own e1 e2) hg hdb⟩
/-- .. and the field can be read -/
def ExF (K : PySem.W.Frag) (mg : Str → Option Value) (c f : Str) : Prop := ∃ C, mg c = some (.ref C) ∧ XfC K C ∧ PySem.W.findIn K (.ref C) f = some none
def ExcsOk (P : Program) (K : PySem.W.Frag) (mg : Str → Option Value) : List (Str × XC) → Prop
  | [] => True
  | (c, .plain) :: r => ExP K mg c ∧ ExcsOk P K mg r
  | (c, .own f) :: r => (ExO P K mg c f ∧ ExF K mg c f) ∧ ExcsOk P K mg r
theorem ExcsOk.plain : ∀ {xs : List (Str × XC)} {c : Str}, ExcsOk P K mg xs → xs.lookup c = some .plain → ExP K mg c
  | [], c, _, h => by simp at h
  | (y, x) :: r, c, hc, h => by
    rw [List.lookup] at h
    split at h
    · rename_i q
      cases h
      rw [eq_of_beq q]
      exact hc.1
    · cases x <;> exact ExcsOk.plain hc.2 h
theorem ExcsOk.own : ∀ {xs : List (Str × XC)} {c f : Str}, ExcsOk P K mg xs → xs.lookup c = some (.own f) → ExO P K mg c f ∧ ExF K mg c f
  | [], c, f, _, h => by simp at h
  | (y, x) :: r, c, f, hc, h => by
    rw [List.lookup] at h
    split at h
    · rename_i q
      cases h
      rw [eq_of_beq q]
      exact hc.1
    · cases x <;> exact ExcsOk.own hc.2 h
/-- which except clause takes which class -/
def ExM (K : PySem.W.Frag) (mg : Str → Option Value) (c x : Str) (b : Bool) : Prop := c ≠ lamN ∧ (x == ("__debug__" : Str)) = false ∧ ∃ C v, mg c = some (.ref C) ∧ (mg x = some v ∨ (mg x = none ∧ bootBuiltins x = some v ∧ x ≠ "__name__")) ∧ PySem.W.exmOne K (.ref C) v = some b
theorem exM_mk {c x : Str} {C D : Addr} {b : Bool} (X : K.In h) (G : h.Ns mainGlobals mg) (hcl : c ≠ lamN) (hx : (x == ("__debug__" : Str)) = false) (a1 : PySem.W.nsIn K mainGlobals c = some (some (.ref C))) (a2 : PySem.W.nsIn K mainGlobals x = some (some (.ref D))) (e : PySem.W.exmOne K (.ref C) (.ref D) = some b) : ExM K mg c x b :=
  ⟨hcl, hx, C, .ref D, PySem.W.mg_of X G a1, .inl (PySem.W.mg_of X G a2), e⟩
def ExmsOk (K : PySem.W.Frag) (mg : Str → Option Value) : List ((Str × Str) × Bool) → Prop
  | [] => True
  | p :: r => ExM K mg p.1.1 p.1.2 p.2 ∧ ExmsOk K mg r
theorem ExmsOk.get : ∀ {xs : List ((Str × Str) × Bool)} {c x : Str} {b : Bool}, ExmsOk K mg xs → xs.lookup (c, x) = some b → ExM K mg c x b
  | [], c, x, b, _, h => by simp at h
  | p :: r, c, x, b, hc, h => by
    obtain ⟨y, d⟩ := p
    rw [List.lookup] at h
    split at h
    · rename_i q
      cases h
      have q := eq_of_beq q
      have h1 := hc.1
      rw [← q] at h1
      exact h1
    · exact ExmsOk.get hc.2 h
def nmOk (M : Gb) : Bool := ((M.consts.map (·.1)) ++ M.defs ++ M.free).all fun x => !(x == ("__debug__" : Str)) && !(x == ("__name__" : Str)) && !(x == lamN)
theorem lookup_mem {cs : List (Str × D)} {x : Str} {d : D} (h : cs.lookup x = some d) : x ∈ cs.map (·.1) := by
  induction cs with
  | nil => simp at h
  | cons p r ih =>
    obtain ⟨y, c⟩ := p
    rw [List.lookup] at h
    split at h
    · rename_i q; rw [eq_of_beq q]; simp
    · exact List.mem_cons_of_mem _ (ih h)
theorem mod_mk [TabsC] (cs : ConstsOk K mg M.consts) (rows : RowsOk K mg base T) (all : (M.defs.all fun f => (T.lookup f).isSome) = true) (fr : FreeOk mg M.free) (ms : ModsOk mg M.mods) (ex : ExcsOk P K mg M.excs) (em : ExmsOk K mg M.exm) (nm : nmOk M = true) : ModOk M P K mg := by
  have nmd : ∀ x, (∃ d, M.consts.lookup x = some d) ∨ M.defs.contains x = true ∨ M.free.contains x = true → ((x == ("__debug__" : Str)) = false ∧ x ≠ "__name__") ∧ x ≠ lamN := fun x hx => by
    have hm : x ∈ (M.consts.map (·.1)) ++ M.defs ++ M.free := by
      rcases hx with ⟨d, hd⟩ | hx | hx
      · simp only [List.mem_append]; exact .inl (.inl (lookup_mem hd))
      · simp only [List.mem_append]; exact .inl (.inr (List.contains_iff_mem.mp hx))
      · simp only [List.mem_append]; exact .inr (List.contains_iff_mem.mp hx)
    have := List.all_eq_true.mp nm x hm
    simp only [Bool.and_eq_true, Bool.not_eq_true'] at this
    exact ⟨⟨this.1.1, fun e => by rw [e] at this; exact absurd this.1.2 (by decide)⟩, fun e => by rw [e] at this; exact absurd this.2 (by decide)⟩
  exact {
    const := fun x d hd => by
      obtain ⟨u, v, h1, h2, h3, h4⟩ := cs.get hd
      exact ⟨u, v, h1, h2, h3, h4⟩
    defs := fun x hx => by
      have := List.all_eq_true.mp all x (List.contains_iff_mem.mp hx)
      obtain ⟨df, hd⟩ := Option.isSome_iff_exists.mp this
      obtain ⟨fa, fd, ps, hh⟩ := rows.get hd
      exact ⟨(nmd x (.inr (.inl hx))).2, fa, hh.mgf⟩
    free := fun x hx => fr.get (List.contains_iff_mem.mp hx)
    exP := fun c h => ex.plain h
    exO := fun c f h => (ex.own h).1
    exF := fun c f h => (ex.own h).2
    exm := fun c x b h => em.get h
    mods := fun x b h => ms.get h
    nm := fun x hx => (nmd x hx).1 }
/-- a def that makes lambdas: its code object and its table -/
theorem csOk_mk {q : Program} {K : PySem.W.Frag} {h : Heap} {x nm : Str} {f c P : Addr} {oc oc2 : Value} {od od2 : Option Addr} {osl osl2 : Array (Option Value)} {fd : FuncData} {vs : Array Value} (TF : TabF q K h) (hd : ∃ d, (PyProof.Rows.recsOf q).find? (fun e => e.name == x) = some d)
    (a : PySem.W.nsIn K mainGlobals x = some (some (.ref f))) (l : K.lookup f = some ⟨oc, od, .func fd, osl⟩) (hc : fd.code = .ref c) (l2 : K.lookup c = some ⟨oc2, od2, .fields vs, osl2⟩) (hv : vs[11]? = some (.ref P)) (n : K.lookup P = none) : CsOk K h (c, P, nm) := by
  have t : PySem.W.tabIn K x = some (c, P) := by
    unfold PySem.W.tabIn
    rw [a]
    simp only [l, hc, l2, hv]
  obtain ⟨t1, t2⟩ := TF x c P hd t
  exact ⟨t2, n, t1⟩
abbrev csOf {cs : List Ct} {mg : Str → Option Value} {base : Heap} (_ : ∀ p ∈ cs, LamX.TabB base mg p.1 p.2.1) : List Ct := cs
theorem lam_at {cs : List Ct} {mg : Str → Option Value} {base : Heap} {c P : Addr} {q : Str} (TB : ∀ p ∈ cs, LamX.TabB base mg p.1 p.2.1) (hm : (c, P, q) ∈ cs) (hn : (cs.map fun p => p.2.1).Nodup) :
    ∃ c' P', LamX.TabB base mg c' P' ∧ Value.ref c = .ref c' ∧ (P', q) ∈ (tabsI cs).T ∧ ∀ p ∈ (tabsI cs).T, p.1 = P' → p.2 = q := by
  refine ⟨c, P, TB _ hm, rfl, List.mem_map.mpr ⟨_, hm, rfl⟩, fun p hp e => ?_⟩
  obtain ⟨r, hr, er⟩ := List.mem_map.mp hp
  subst er
  have e : r.2.1 = P := e
  suffices r = (c, P, q) by rw [this]
  have key : ∀ (l : List Ct), (l.map fun p => p.2.1).Nodup → r ∈ l → (c, P, q) ∈ l → r = (c, P, q) := by
    intro l
    induction l with
    | nil => intro _ h; cases h
    | cons y l ih =>
      intro hn h1 h2
      rw [List.map_cons, List.nodup_cons] at hn
      rcases List.mem_cons.mp h1 with z1 | z1 <;> rcases List.mem_cons.mp h2 with z2 | z2
      · rw [z1, z2]
      · exact absurd (List.mem_map.mpr ⟨_, z2, by rw [← z1, e]⟩) hn.1
      · exact absurd (List.mem_map.mpr ⟨_, z1, by rw [← z2, e]⟩) hn.1
      · exact ih hn.2 z1 z2
  exact key cs hn hr hm
/-- the law's own def -/
theorem law_fact [TabsC] {k : Nat} {df : Df} {fa : Addr} {fd : FuncData} (tab : TabOk M P T K mg base) (hl : T.lookup ("law" : Str) = some df) (hd : DfOk K mg base "law" df fa fd ["script"]) :
    FnG P w K mg base (L2.CX P w) k fa fd ["script"] (spC P w K mg base (lev M T k) "law") := lev_ok tab k "law" df _ fd _ hl hd
end
/-- the whole way -/
theorem walk_law {l : PySem.W.OpenLaw} {n k : Nat} {q : Program} {loose : List Str} {XP : (Str → Option Value) → Heap → Prop} {YP : World → Heap → Prop} {d : DefRec} {K : Params → PySem.W.Frag} {M : Gb} {T : List (Str × Df)}
    (hn : l.most = some n) (hn2 : n ≤ sizeLine) (hdf : d.params.defaults = []) (hr : Room k callerA) (hnm : d.name = "law") (hY : ∀ (w : World) (h : Heap), YP w h → (K w.params).In h)
    (F : ∀ (w : World) (mg : Str → Option Value) (h : Heap), (K w.params).In h → h.Ns mainGlobals mg → TabF q (K w.params) h → ∃ cs : List Ct, (∀ p ∈ cs, CsOk (K w.params) h p) ∧ ∃ fd : FuncData, (∀ (s : Shared) (us : List Value), us.length = 1 → BindsTo s fd ⟨us, []⟩ (([("script" : Str)] : List Str).zip us)) ∧ ∀ base : Heap, (∀ p ∈ cs, LamX.TabB base mg p.1 p.2.1) →
      @TabOk (tabsI cs) M l.prog T (K w.params) mg base ∧ ∃ df, T.lookup ("law" : Str) = some df ∧ ∃ fa, @DfOk (tabsI cs) (K w.params) mg base "law" df fa fd ["script"])
    (math : ∀ ns : List Int, ns.length ≤ n → (∀ z ∈ ns, Builtin.Int.intBits z ≤ 1048576) → ∃ outs, lev M T k "law" [.lst .ext (ns.map .int)] = .ok (.bl true, outs)) :
    PySem.W.WalkO q loose XP YP l.row.toRowW d [] (fun f vs => PySem.call f vs) := by
  refine walk_ofG (n := n) (k := k) (x := "script") (K := K) (CX := fun w => L2.CX l.prog w) hn hn2 hdf hr hY (fun w mg fa h X G TF hmg => ?_) (fun w H s e s' ⟨_, _, _, _, _, _, _, _, _, _, _, _, z⟩ => z)
  obtain ⟨cs, hC, fd, hb, hF⟩ := F w mg h X G TF
  rw [hnm] at hmg
  refine ⟨fd, cs, fun base => @spC (tabsI cs) l.prog w (K w.params) mg base (lev M T k) "law", hC, fun s u => hb s [u] rfl, fun base s H S a ns hl hbits h1 h2 h3 hs => spC_law h1 h2 h3 hs (math ns hl hbits), fun base _ _ TB => ?_⟩
  obtain ⟨tab, df, hl, fa', hd⟩ := hF base TB
  have e := hmg.symm.trans (@DfOk.mgf (tabsI cs) _ _ _ _ _ _ _ _ hd)
  cases e
  exact @law_fact l.prog w (K w.params) base mg M T (tabsI cs) k df _ fd tab hl hd
end Ev

set_option Elab.async false
set_option linter.all false
set_option maxRecDepth 100000
set_option maxHeartbeats 4000000
/-! Ev33: rows for reckoning with the evaluator. -/
namespace Ev
open PySem L2

def gOf (f : Df) (b : List Nat) : Cn := { N := f.N, sc := defScope f.st, fnc := fun _ => true, bor := b, clo := f.clo, lam := f.lam, hc := f.clo }
/-- the defs at level k -/
abbrev levC (M : Gb) (T : List (Str × Df)) (k : Nat) : Cl := ⟨lev M T k, low M T k, decide (2 ≤ k)⟩
def fin (ds : List D) : Fl → R (D × List (Option D))
    | .nx e => .ok (.non, outsOf ds e)
    | .rt d e => .ok (d, outsOf ds e)
    | _ => .stuck
def en0 (f : Df) (ds : List D) : En := ds.map some ++ List.replicate (f.N.length - ds.length) none
theorem lev_eq {M : Gb} {T : List (Str × Df)} {k : Nat} {x : Str} {f : Df} {ds : List D} (ht : T.lookup x = some f) (hl : ds.length = f.np) (hc : (!f.clo && ds.any isClo) = false) :
    lev M T (k + 1) x ds = match evSs M (levC M T k) (gOf f (borOf ds)) 60 200 (defBody f.st) (en0 f ds) with
      | .ok (.nx e) => .ok (.non, outsOf ds e)
      | .ok (.rt d e) => .ok (d, outsOf ds e)
      | .err c fs e => .err c fs (outsOf ds e)
      | _ => .stuck := by
  rw [lev_succ, ht]
  show runDef M _ f ds = _
  unfold runDef
  rw [if_neg (by simpa using hl), if_neg (by rw [hc]; simp)]
  rfl
/-- what a reckoning comes to -/
def Wp {α : Type} (r : R α) (P : α → Prop) : Prop := ∃ a, r = .ok a ∧ P a
theorem wp_lev {M : Gb} {T : List (Str × Df)} {k : Nat} {x : Str} {f : Df} {ds : List D} {P : D × List (Option D) → Prop} (ht : T.lookup x = some f) (hl : ds.length = f.np) (hc : (!f.clo && ds.any isClo) = false)
    (h : Wp ((evSs M (levC M T k) (gOf f (borOf ds)) 60 200 (defBody f.st) (en0 f ds)).bind (fin ds)) P) : Wp (lev M T (k + 1) x ds) P := by
  obtain ⟨a, e, hp⟩ := h
  refine ⟨a, ?_, hp⟩
  rw [lev_eq ht hl hc]
  cases q : evSs M (levC M T k) (gOf f (borOf ds)) 60 200 (defBody f.st) (en0 f ds) with
  | ok fl =>
    rw [q] at e
    cases fl <;> first | exact e | cases e
  | err _ _ _ => rw [q] at e; cases e
  | stuck => rw [q] at e; cases e
section
variable {α β : Type} {a : α} {f : α → R β} {i j : Int} {b : Bool} {e : En} {d d2 x y : D} {ds : List D} {n : Nat} {o : Option D}
theorem bind_ok : (R.ok a).bind f = f a := rfl
theorem bind_st : (R.stuck : R α).bind f = .stuck := rfl
theorem ofO_s : ofO (some a) = .ok a := rfl
theorem c_val : content e (.val d) = some d := rfl
theorem c_han : content e (.han n []) = getE e n := by
  simp only [content]
  cases getE e n with
  | none => rfl
  | some d => simp only [part]
theorem g_0 : getE (o :: e) 0 = o := by cases o <;> rfl
theorem g_s : getE (o :: e) (n + 1) = getE e n := by simp only [getE, List.getElem?_cons_succ]
theorem sole_v : sole e (.val d) = .ok (.val d, e) := rfl
theorem sole_h : sole e (.han n []) = .ok (.han n [], e) := rfl
theorem take_v : take e (.val d) = .ok (d, e) := rfl
theorem take_h (h : getE e n = some d) : take e (.han n []) = .ok (frz d, e.set n (some (frz d))) := by simp only [take, h, part]
theorem ow_non : owned .non = false := rfl
theorem ow_bl : owned (.bl b) = false := rfl
theorem ow_int : owned (.int i) = false := rfl
theorem ow_str {z : Str} : owned (.str z) = false := rfl
theorem ow_tup : owned (.tup ds) = false := rfl
theorem ow_own : owned (.lst .own ds) = true := rfl
theorem ow_fro : owned (.lst .fro ds) = false := rfl
theorem ow_ext : owned (.lst .ext ds) = false := rfl
theorem ow_ty {z : String} : owned (.ty z) = false := rfl
theorem ow_fn {z : Str} : owned (.fn z) = false := rfl
theorem ow_dic {ks : List Key} : owned (.dic .own ks ds) = true := rfl
theorem b_add : binop .Add (.int i) (.int j) = some (.int (i + j)) := rfl
theorem b_sub : binop .Sub (.int i) (.int j) = some (.int (i - j)) := rfl
theorem b_mul (h : mulOk i j = true) : binop .Mult (.int i) (.int j) = some (.int (i * j)) := by simp only [binop, h, if_true]
theorem b_mod (h : 0 < j) : binop .Mod (.int i) (.int j) = some (.int (i % j)) := by simp only [binop, h, if_true]
theorem b_div (h : divOk j = true) : binop .FloorDiv (.int i) (.int j) = some (.int (i / j)) := by simp only [binop, h, if_true]
theorem n_non : isNon .non = true := rfl
theorem n_bl : isNon (.bl b) = false := rfl
theorem n_int : isNon (.int i) = false := rfl
theorem n_str {z : Str} : isNon (.str z) = false := rfl
theorem n_tup : isNon (.tup ds) = false := rfl
theorem n_lst {m : Mk} : isNon (.lst m ds) = false := rfl
theorem n_dic {m : Mk} {ks : List Key} : isNon (.dic m ks ds) = false := rfl
theorem m_is : cmpop .Is x .non = some (isNon x) := by cases x <;> rfl
theorem m_isnot : cmpop .IsNot x .non = some (!isNon x) := by cases x <;> rfl
theorem m_lt : cmpop .Lt (.int i) (.int j) = some (decide (i < j)) := rfl
theorem m_le : cmpop .LtE (.int i) (.int j) = some (decide (i ≤ j)) := rfl
theorem m_gt : cmpop .Gt (.int i) (.int j) = some (decide (j < i)) := rfl
theorem m_ge : cmpop .GtE (.int i) (.int j) = some (decide (j ≤ i)) := rfl
theorem m_eq : cmpop .Eq x y = eqD x y := by cases x <;> cases y <;> rfl
theorem m_ne : cmpop .NotEq x y = (eqD x y).map fun b => !b := by cases x <;> cases y <;> rfl
theorem q_int : eqD (.int i) (.int j) = some (decide (i = j)) := by
  simp only [eqD, toPy, SeqAt.shaped, Bool.true_and, if_true]
  first | rfl | (congr 1; simp [PyData.eqv]) | (simp [PyData.eqv])
theorem t_bl : truth (.bl b) = some b := rfl
theorem t_int : truth (.int i) = some (i != 0) := rfl
theorem t_non : truth .non = some false := rfl
theorem t_tup : truth (.tup ds) = some (!ds.isEmpty) := rfl
theorem t_lst {m : Mk} : truth (.lst m ds) = some (!ds.isEmpty) := rfl
theorem s_and {c : Bool} : stops .And c = !c := rfl
theorem s_or {c : Bool} : stops .Or c = c := rfl
theorem name_v {M : Gb} {G : Cn} {z : Str} {i : Nat} (hs : slotOf G.N z = some i) (hv : G.vis z = true) : nameE M G z e = match getE e i with | some d => .ok (if owned d then .han i [] else .val d, e) | none => .stuck := by
  unfold nameE
  rw [hs]
  simp only [hv, if_true]
  all_goals (cases getE e i <;> rfl)
theorem name_g {M : Gb} {G : Cn} {z : Str} (hs : slotOf G.N z = none) (hg : G.glob z = true) : nameE M G z e = match M.consts.lookup z with
    | some d => .ok (.val d, e)
    | none => if M.defs.contains z then .ok (.val (.fn z), e) else if M.free.contains z then (match tyName z with | some t => .ok (.val (.ty t), e) | none => .stuck) else .stuck := by
  unfold nameE; rw [hs]; simp only [hg, if_true]
  all_goals rfl
theorem asg_v {G : Cn} {z : Str} {i : Nat} (hs : slotOf G.N z = some i) (hl : G.loc z = true) (hb : G.bor.contains i = false) (hi : i < e.length) : asgN G z d e = .ok (e.set i (some d)) := by
  simp only [asgN, setS, hs, hl, hb, hi, if_true]
  simp
theorem q_non1 : eqD .non .non = some true := by first | rfl | simp [eqD, toPy, SeqAt.shaped, PyData.eqv]
theorem q_non2 : eqD (.int i) .non = some false := by first | rfl | simp [eqD, toPy, SeqAt.shaped, PyData.eqv]
theorem q_non3 : eqD .non (.int i) = some false := by first | rfl | simp [eqD, toPy, SeqAt.shaped, PyData.eqv]
theorem q_bl {c : Bool} : eqD (.bl b) (.bl c) = some (b == c) := by first | rfl | (cases b <;> cases c <;> rfl)
theorem gOf_N {f : Df} {bs : List Nat} : (gOf f bs).N = f.N := rfl
theorem gOf_bor {f : Df} {bs : List Nat} : (gOf f bs).bor = bs := rfl
theorem sub_N {G : Cn} {sc : Scope} : (G.sub sc).N = G.N := rfl
theorem sub_bor {G : Cn} {sc : Scope} : (G.sub sc).bor = G.bor := rfl
theorem name_eq {M : Gb} {G : Cn} {z : Str} : nameE M G z e = match slotOf G.N z with
  | some i => if G.vis z then (match getE e i with
    | some d => .ok (if owned d then .han i [] else .val d, e)
    | none => .stuck) else .stuck
  | none => if G.glob z then (match M.consts.lookup z with
    | some d => .ok (.val d, e)
    | none => if M.defs.contains z then .ok (.val (.fn z), e) else if M.free.contains z then (match tyName z with | some t => .ok (.val (.ty t), e) | none => .stuck) else .stuck) else .stuck := rfl
theorem asgN_eq {G : Cn} {z : Str} : asgN G z d e = match slotOf G.N z with
  | some i => if G.loc z then (if G.bor.contains i then .stuck else if i < e.length then .ok (e.set i (some d)) else .stuck) else .stuck
  | none => .stuck := rfl
theorem call_eq {cl : Cl0} {f : Str} {vs : List RV} : callF cl f vs e = match lend e vs with
  | some (ds, is, e1) => backF is e1 (cl f ds)
  | none => .stuck := rfl
theorem back_ok {is : List (Option Nat)} {outs : List (Option D)} : backF is e (.ok (d, outs)) = match giveBack is outs e with | some e2 => .ok (.val d, e2) | none => .stuck := rfl
theorem back_st {is : List (Option Nat)} : backF is e .stuck = .stuck := rfl
theorem at_gOf {M : Gb} {T : List (Str × Df)} {k : Nat} {f : Df} {bs : List Nat} (h : f.clo = false) : (levC M T k).at (gOf f bs) = lev M T k := by
  unfold Cl.at gOf
  simp only [h]
  rfl
theorem at_sub {cl : Cl} {G : Cn} {sc : Scope} : cl.at (G.sub sc) = cl.at G := rfl
theorem bl_sum {m : Mk} {ns : List Int} (h : intsD ds = some ns) : callB .sum [.lst m ds] = some (.int ns.sum) := by simp only [callB, h]
theorem bl_gcd : callB .gcd [.int i, .int j] = some (.int ((Nat.gcd i.natAbs j.natAbs : Nat) : Int)) := rfl
theorem okC_lt {b : Expr} : okC .Lt b = true := rfl
theorem okC_le {b : Expr} : okC .LtE b = true := rfl
theorem okC_gt {b : Expr} : okC .Gt b = true := rfl
theorem okC_ge {b : Expr} : okC .GtE b = true := rfl
theorem okC_eq {b : Expr} : okC .Eq b = true := rfl
theorem okC_ne {b : Expr} : okC .NotEq b = true := rfl
theorem okC_is {b : Expr} : okC .Is b = true := rfl
theorem okC_isn {b : Expr} : okC .IsNot b = true := rfl
theorem lend_nil : lend e [] = some ([], [], e) := rfl
theorem lend_val {r : List RV} : lend e (.val d :: r) = match lend e r with | some (ds, is, e1) => some (frz d :: ds, none :: is, e1) | none => none := rfl
theorem lend_han {r : List RV} : lend e (.han n [] :: r) = match getE e n with
    | some d => (match lend (e.set n none) r with | some (ds, is, e1) => some (d :: ds, some n :: is, e1) | none => none)
    | none => none := rfl
theorem gb_nil {s : List (Option D)} : giveBack [] s e = some e := rfl
theorem gb_none {r : List (Option Nat)} {s : List (Option D)} : giveBack (none :: r) (o :: s) e = giveBack r s e := by cases o <;> rfl
theorem gb_some {r : List (Option Nat)} {s : List (Option D)} : giveBack (some n :: r) (some d :: s) e = giveBack r s (e.set n (some d)) := rfl
theorem frz_int : frz (.int i) = .int i := rfl
theorem contents_nil : contents e [] = some [] := rfl
theorem contents_cons {v : RV} {r : List RV} : contents e (v :: r) = match content e v, contents e r with | some d, some ds => some (d :: ds) | _, _ => none := rfl
theorem bl_int : callB .int [.int i] = some (.int i) := rfl
theorem bl_bl : callB .int [.bl b] = some (.int (if b then 1 else 0)) := rfl
theorem pp_1 {j : Nat} : putPart (.lst .own ds) [j] x = (match ds[j]? with | some _ => some (.lst .own (ds.set j x)) | none => none) := by
  simp only [putPart]
  all_goals (cases ds[j]? <;> rfl)
theorem lenOk2 : lenOk 2 = true := by unfold lenOk; exact decide_eq_true (by decide)
theorem frzL_nil : frzL [] = [] := rfl
theorem frzL_cons : frzL (d :: ds) = frz d :: frzL ds := rfl
theorem frz_tup : frz (.tup ds) = .tup ds := rfl
theorem itE_t {va : RV} {i : Int} {xs : List D} : itemE va (some (.tup xs)) i e = (match item xs i with
    | some j => (match xs[j]? with | some d => .ok (.val d, e) | none => .stuck)
    | none => .stuck) := rfl
theorem itE_l {va : RV} {i : Int} {m : Mk} {xs : List D} : itemE va (some (.lst m xs)) i e = (match item xs i with
    | some j => (match xs[j]? with
      | some d => if owned d then (match va with | .han s p => .ok (.han s (p ++ [j]), e) | _ => .stuck) else .ok (.val d, e)
      | none => .stuck)
    | none => .stuck) := rfl
theorem item_nat {xs : List D} {j : Nat} (h : j < xs.length) : item xs (j : Int) = some j := by
  unfold item ixN
  have h1 : (0 : Int) ≤ (j : Int) := Int.natCast_nonneg j
  have h2 : (j : Int) < (xs.length : Int) := by omega
  rw [if_pos h1, if_pos h2]
  simp
theorem item_0 {xs : List D} : item (d :: xs) 0 = some 0 := item_nat (j := 0) (by simp)
theorem item_1 {xs : List D} : item (d :: d2 :: xs) 1 = some 1 := item_nat (j := 1) (by simp)
theorem item_2 {xs : List D} : item (d :: d2 :: x :: xs) 2 = some 2 := item_nat (j := 2) (by simp)
theorem li_0 {γ : Type} {z : γ} {xs : List γ} : (z :: xs)[0]? = some z := rfl
theorem li_1 {γ : Type} {z z1 : γ} {xs : List γ} : (z :: z1 :: xs)[1]? = some z1 := rfl
theorem li_2 {γ : Type} {z z1 z2 : γ} {xs : List γ} : (z :: z1 :: z2 :: xs)[2]? = some z2 := rfl
theorem takes_nil : takes e [] = .ok ([], e) := rfl
theorem takes_cons {v : RV} {r : List RV} : takes e (v :: r) = (take e v).bind fun (d, e1) => (takes e1 r).bind fun (ds, e2) => .ok (d :: ds, e2) := rfl
theorem ed2 {p q : Str} : ([p, q].eraseDups.length != 2) = (q == p) := by
  cases h : (q == p) <;> simp [List.eraseDups, List.eraseDupsBy, List.eraseDupsBy.loop, h]
theorem ed3 {p q r : Str} (h1 : (q == p) = false) (h2 : (r == p) = false) (h3 : (r == q) = false) : ([p, q, r].eraseDups.length != 3) = false := by
  simp [List.eraseDups, List.eraseDupsBy, List.eraseDupsBy.loop, h1, h2, h3]
theorem bl_lenT : callB .len [.tup ds] = some (.int ds.length) := rfl
theorem bl_lenL {m : Mk} : callB .len [.lst m ds] = some (.int ds.length) := rfl
theorem bl_abs : callB .abs [.int i] = some (.int (if i < 0 then -i else i)) := rfl
theorem bl_max : callB .max [.int i, .int j] = some (.int (if j > i then j else i)) := rfl
theorem bl_min : callB .min [.int i, .int j] = some (.int (if j < i then j else i)) := rfl
theorem bl_listT : callB .list [.tup ds] = some (.lst .own ds) := rfl
theorem bl_listL {m : Mk} (h : plainL ds = true) : callB .list [.lst m ds] = some (.lst .own ds) := by simp only [callB, h, if_true]
theorem bl_tupT : callB .tuple [.tup ds] = some (.tup ds) := rfl
theorem bl_tupL {m : Mk} (h : plainL ds = true) : callB .tuple [.lst m ds] = some (.tup ds) := by simp only [callB, h, if_true]
theorem bl_any {m : Mk} {bs : List Bool} (h : bools ds = some bs) : callB .any [.lst m ds] = some (.bl (bs.any id)) := by simp only [callB, h]
theorem bl_all {m : Mk} {bs : List Bool} (h : bools ds = some bs) : callB .all [.lst m ds] = some (.bl (bs.all id)) := by simp only [callB, h]
theorem is_ty {z : String} : callB .isinstance [d, .ty z] = (isinst d z).map fun b => .bl b := rfl
theorem is_non_int : isinst .non "int" = some false := by first | rfl | decide
theorem is_non_bool : isinst .non "bool" = some false := by first | rfl | decide
theorem is_non_tuple : isinst .non "tuple" = some false := by first | rfl | decide
theorem is_non_list : isinst .non "list" = some false := by first | rfl | decide
theorem is_non_str : isinst .non "str" = some false := by first | rfl | decide
theorem is_non_dict : isinst .non "dict" = some false := by first | rfl | decide
theorem is_bl_int : isinst (.bl b) "int" = some true := by first | rfl | decide
theorem is_bl_bool : isinst (.bl b) "bool" = some true := by first | rfl | decide
theorem is_bl_tuple : isinst (.bl b) "tuple" = some false := by first | rfl | decide
theorem is_bl_list : isinst (.bl b) "list" = some false := by first | rfl | decide
theorem is_bl_str : isinst (.bl b) "str" = some false := by first | rfl | decide
theorem is_bl_dict : isinst (.bl b) "dict" = some false := by first | rfl | decide
theorem is_int_bool : isinst (.int i) "bool" = some false := by first | rfl | decide
theorem is_int_tuple : isinst (.int i) "tuple" = some false := by first | rfl | decide
theorem is_int_list : isinst (.int i) "list" = some false := by first | rfl | decide
theorem is_int_str : isinst (.int i) "str" = some false := by first | rfl | decide
theorem is_int_dict : isinst (.int i) "dict" = some false := by first | rfl | decide
theorem is_str_int {z : Str} : isinst (.str z) "int" = some false := by first | rfl | decide
theorem is_str_bool {z : Str} : isinst (.str z) "bool" = some false := by first | rfl | decide
theorem is_str_tuple {z : Str} : isinst (.str z) "tuple" = some false := by first | rfl | decide
theorem is_str_list {z : Str} : isinst (.str z) "list" = some false := by first | rfl | decide
theorem is_str_str {z : Str} : isinst (.str z) "str" = some true := by first | rfl | decide
theorem is_str_dict {z : Str} : isinst (.str z) "dict" = some false := by first | rfl | decide
theorem is_tup_int : isinst (.tup ds) "int" = some false := by first | rfl | decide
theorem is_tup_bool : isinst (.tup ds) "bool" = some false := by first | rfl | decide
theorem is_tup_tuple : isinst (.tup ds) "tuple" = some true := by first | rfl | decide
theorem is_tup_list : isinst (.tup ds) "list" = some false := by first | rfl | decide
theorem is_tup_str : isinst (.tup ds) "str" = some false := by first | rfl | decide
theorem is_tup_dict : isinst (.tup ds) "dict" = some false := by first | rfl | decide
theorem is_lst_int {m : Mk} : isinst (.lst m ds) "int" = some false := by first | rfl | decide
theorem is_lst_bool {m : Mk} : isinst (.lst m ds) "bool" = some false := by first | rfl | decide
theorem is_lst_tuple {m : Mk} : isinst (.lst m ds) "tuple" = some false := by first | rfl | decide
theorem is_lst_list {m : Mk} : isinst (.lst m ds) "list" = some true := by first | rfl | decide
theorem is_lst_str {m : Mk} : isinst (.lst m ds) "str" = some false := by first | rfl | decide
theorem is_lst_dict {m : Mk} : isinst (.lst m ds) "dict" = some false := by first | rfl | decide
theorem is_dic_int {m : Mk} {ks : List Key} : isinst (.dic m ks ds) "int" = some false := by first | rfl | decide
theorem is_dic_bool {m : Mk} {ks : List Key} : isinst (.dic m ks ds) "bool" = some false := by first | rfl | decide
theorem is_dic_tuple {m : Mk} {ks : List Key} : isinst (.dic m ks ds) "tuple" = some false := by first | rfl | decide
theorem is_dic_list {m : Mk} {ks : List Key} : isinst (.dic m ks ds) "list" = some false := by first | rfl | decide
theorem is_dic_str {m : Mk} {ks : List Key} : isinst (.dic m ks ds) "str" = some false := by first | rfl | decide
theorem is_dic_dict {m : Mk} {ks : List Key} : isinst (.dic m ks ds) "dict" = some true := by first | rfl | decide
theorem is_int : isinst (.int i) "int" = some true := by first | rfl | decide
end
end Ev

set_option Elab.async false
set_option linter.all false
set_option maxRecDepth 100000
/-! Ev34: reckoning at the head. -/
namespace Ev
open PySem L2
/-! reckoning goes to the head alone: what stands behind a bind, and within a loop, is left as it is -/
structure Tg {α : Type} (f : α) : Type where
  n : Nat
section
variable {α β : Type}
def bnd (x : R α) (f : α → R β) (_ : Tg f) : R β := x.bind f
theorem to_bnd (x : R α) (f : α → R β) : x.bind f = bnd x f ⟨0⟩ := by unfold bnd; rfl
theorem bnd_ok {a : α} {f : α → R β} {t : Tg f} : bnd (.ok a) f t = f a := by cases t; rfl
theorem bnd_st {f : α → R β} {t : Tg f} : bnd .stuck f t = .stuck := by cases t; rfl
theorem bnd_of {x : R α} {f : α → R β} {t : Tg f} {y : R β} (h : ∃ a, x = .ok a ∧ f a = y) : bnd x f t = y := by obtain ⟨a, h1, h2⟩ := h; unfold bnd; rw [h1]; exact h2
def lcF (vs : List Nat) (asg : D → En → R En) (test : En → R (Bool × En)) (elt : En → R (D × En)) (_ : Tg asg) (_ : Tg test) (_ : Tg elt) (ds acc : List D) (e : En) : R (List D × En) := lcL vs asg test elt ds acc e
theorem to_lcF {vs : List Nat} {asg : D → En → R En} {test : En → R (Bool × En)} {elt : En → R (D × En)} {ds acc : List D} {e : En} : lcL vs asg test elt ds acc e = lcF vs asg test elt ⟨0⟩ ⟨0⟩ ⟨0⟩ ds acc e := by unfold lcF; rfl
def forF (asg : D → En → R En) (body : En → R Fl) (_ : Tg asg) (_ : Tg body) (ds : List D) (e : En) : R Fl := forL asg body ds e
theorem to_forF {asg : D → En → R En} {body : En → R Fl} {ds : List D} {e : En} : forL asg body ds e = forF asg body ⟨0⟩ ⟨0⟩ ds e := by unfold forF; rfl
def whileF (test : En → R (Bool × En)) (body : En → R Fl) (_ : Tg test) (_ : Tg body) (n : Nat) (e : En) : R Fl := whileL test body n e
theorem to_whileF {test : En → R (Bool × En)} {body : En → R Fl} {n : Nat} {e : En} : whileL test body n e = whileF test body ⟨0⟩ ⟨0⟩ n e := by unfold whileF; rfl
end
section
variable {α β γ : Type}
theorem bnd_er {f : α → R β} {t : Tg f} {c : Str} {fs : List (Str × D)} {e : En} : bnd (.err c fs e) f t = .err c fs e := by cases t; rfl
theorem bnd_assoc {x : R α} {f : α → R β} {g : β → R γ} {t : Tg f} {u : Tg g} : bnd (bnd x f t) g u = bnd x (fun a => (f a).bind g) ⟨0⟩ := by
  unfold bnd
  cases x <;> rfl
variable {d : D} {e : En} {n v : Nat} {vs : List Nat} {ds : List D} {o : Option D}
theorem takeF_v : takeF e (.val d) = .ok (frz d, e) := rfl
theorem takeF_h : takeF e (.han n []) = (match getE e n with | some d => .ok (frz (frz d), e.set n (some (frz d))) | none => .stuck) := by
  unfold takeF
  simp only [take, part]
  cases getE e n <;> rfl
theorem take_hn : take e (.han n []) = (match getE e n with | some d => .ok (frz d, e.set n (some (frz d))) | none => .stuck) := by
  simp only [take, part]
  all_goals (cases getE e n <;> rfl)
theorem asgNs_nil {G : Cn} : asgNs G [] [] e = .ok e := rfl
theorem asgNs_cons {G : Cn} {x : Str} {p : Pos} {r : List Expr} : asgNs G (.Name x p :: r) (d :: ds) e = (asgN G x d e).bind fun e1 => asgNs G r ds e1 := rfl
theorem asgEa_nil {M : Gb} {cl : Cl} {G : Cn} {w : Nat} : asgEach M cl G w [] [] e = .ok e := rfl
theorem asgEa_nam {M : Gb} {cl : Cl} {G : Cn} {w : Nat} {x : Str} {p : Pos} {r : List Expr} : asgEach M cl G w (.Name x p :: r) (d :: ds) e = (asgN G x d e).bind fun e1 => asgEach M cl G w r ds e1 := rfl
theorem asgEa_sub {M : Gb} {cl : Cl} {G : Cn} {w : Nat} {a b : Expr} {p : Pos} {r : List Expr} : asgEach M cl G w (.Subscript a b p :: r) (d :: ds) e = (asgI M cl G w a b d e).bind fun e1 => asgEach M cl G w r ds e1 := rfl
theorem isOL_own : isOL (some (.lst .own ds)) = true := rfl
theorem pp_0 {x : D} : putPart d [] x = some x := by unfold putPart; rfl
theorem free_nil : freeE e [] = true := rfl
def plO : Option D → Bool
  | some d => !owned d
  | none => true
theorem plO_s : plO (some d) = !owned d := rfl
theorem plO_n : plO none = true := rfl
theorem free_cons : freeE e (v :: vs) = (plO (getE e v) && freeE e vs) := rfl
theorem c_hanc {i : Nat} {p : List Nat} : content e (.han n (i :: p)) = (match getE e n with | some d => part d (i :: p) | none => none) := rfl
theorem wipe_nil : wipeE e [] = e := rfl
theorem wipe_cons : wipeE e (v :: vs) = (wipeE e vs).set v none := rfl
theorem back_eq {e0 : En} : backE e0 e vs = patchE e0 (wipeE e vs) vs := rfl
theorem patch_nil {e0 : En} : patchE e0 e [] = e := rfl
theorem patch_cons {e0 : En} : patchE e0 e (v :: vs) = patchE e0 (e.set v (match e0[v]? with | some o => o | none => none)) vs := rfl
theorem li_3 {z z1 z2 z3 : γ} {xs : List γ} : (z :: z1 :: z2 :: z3 :: xs)[3]? = some z3 := rfl
theorem li_4 {z z1 z2 z3 z4 : γ} {xs : List γ} : (z :: z1 :: z2 :: z3 :: z4 :: xs)[4]? = some z4 := rfl
theorem li_5 {z z1 z2 z3 z4 z5 : γ} {xs : List γ} : (z :: z1 :: z2 :: z3 :: z4 :: z5 :: xs)[5]? = some z5 := rfl
theorem li_6 {z z1 z2 z3 z4 z5 z6 : γ} {xs : List γ} : (z :: z1 :: z2 :: z3 :: z4 :: z5 :: z6 :: xs)[6]? = some z6 := rfl
theorem li_7 {z z1 z2 z3 z4 z5 z6 z7 : γ} {xs : List γ} : (z :: z1 :: z2 :: z3 :: z4 :: z5 :: z6 :: z7 :: xs)[7]? = some z7 := rfl
theorem b_addT {xs ys : List D} : binop .Add (.tup xs) (.tup ys) = if lenOk (xs.length + ys.length) then some (.tup (xs ++ ys)) else none := by unfold binop; rfl
theorem b_addLo {xs ys : List D} : binop .Add (.lst .own xs) (.lst .own ys) = if plainL xs && plainL ys && lenOk (xs.length + ys.length) then some (.lst .own (xs ++ ys)) else none := by
  unfold binop
  simp
theorem b_addLf {xs ys : List D} : binop .Add (.lst .fro xs) (.lst .own ys) = if plainL xs && plainL ys && lenOk (xs.length + ys.length) then some (.lst .own (xs ++ ys)) else none := by
  unfold binop
  simp
theorem pl_nil : plainL [] = true := rfl
theorem pl_cons {r : List D} : plainL (d :: r) = (!owned d && plainL r) := rfl
theorem frz_fro : frz (.lst .fro ds) = .lst .fro ds := rfl
theorem frz_ext : frz (.lst .ext ds) = .lst .ext ds := rfl
theorem frz_own : frz (.lst .own ds) = .lst .fro (frzL ds) := by simp only [frz]
theorem ow_dfro {ks : List Key} : owned (.dic .fro ks ds) = false := rfl
theorem ow_dext {ks : List Key} : owned (.dic .ext ks ds) = false := rfl
theorem frz_bare (h : owned d = false) : frz d = d := by
  cases d with
  | lst m ds => cases m <;> first | rfl | (simp [owned] at h)
  | dic m ks ds => cases m <;> first | rfl | (simp [owned] at h)
  | _ => rfl
theorem frz_non : frz .non = .non := rfl
theorem frz_bl {b : Bool} : frz (.bl b) = .bl b := rfl
theorem frz_str {s : Str} : frz (.str s) = .str s := rfl
/-- a op b: by the values, or by what is shared -/
def orT (o : Option D) (e : En) (k : Unit → R (RV × En)) (_ : Tg k) : R (RV × En) := match o with
  | some d => .ok (.val d, e)
  | none => k ()
theorem orT_s {k : Unit → R (RV × En)} {t : Tg k} : orT (some d) e k t = .ok (.val d, e) := by cases t; rfl
theorem orT_n {k : Unit → R (RV × En)} {t : Tg k} : orT none e k t = k () := by cases t; rfl
theorem bin_eq {M : Gb} {cl : Cl} {G : Cn} {n : Nat} {a b : Expr} {op : Operator} {p : Pos} : evE M cl G (n + 1) (.BinOp a op b p) e = (evO M cl G n a e).bind fun (va, e1) => (evO M cl G n b e1).bind fun (vb, e2) => match content e2 va, content e2 vb with
      | some x, some y => orT (binop op x y) e2 (fun _ => (takes e2 [va, vb]).bind fun (ds, e3) => match ds with
          | [x', y'] => (ofO (binop op x' y')).bind fun d => .ok (.val d, e3)
          | _ => .stuck) ⟨0⟩
      | _, _ => .stuck := by
  conv => lhs; unfold evE
  rfl
/-- one statement, then the rest -/
def seqF (x : R Fl) (k : En → R Fl) (_ : Tg k) : R Fl := x.bind fun
  | .nx e1 => k e1
  | f => .ok f
theorem evSs_seq {M : Gb} {cl : Cl} {G : Cn} {w n : Nat} {s : Stmt} {r : List Stmt} : evSs M cl G w (n + 1) (s :: r) e = seqF (evS M cl G w n s e) (fun e1 => evSs M cl G w n r e1) ⟨0⟩ := by
  conv => lhs; unfold evSs
  rfl
theorem evSs_end {M : Gb} {cl : Cl} {G : Cn} {w n : Nat} : evSs M cl G w (n + 1) [] e = .ok (.nx e) := by
  conv => lhs; unfold evSs
theorem seq_nx {k : En → R Fl} {t : Tg k} : seqF (.ok (.nx e)) k t = k e := by cases t; rfl
theorem seq_rt {k : En → R Fl} {t : Tg k} : seqF (.ok (.rt d e)) k t = .ok (.rt d e) := by cases t; rfl
theorem seq_bk {k : En → R Fl} {t : Tg k} : seqF (.ok (.bk e)) k t = .ok (.bk e) := by cases t; rfl
theorem seq_ct {k : En → R Fl} {t : Tg k} : seqF (.ok (.ct e)) k t = .ok (.ct e) := by cases t; rfl
theorem seq_bnd {x : R α} {f : α → R Fl} {t : Tg f} {k : En → R Fl} {u : Tg k} : seqF (bnd x f t) k u = bnd x (fun a => seqF (f a) k ⟨0⟩) ⟨0⟩ := by
  unfold bnd seqF
  cases x <;> rfl
theorem bnd_seq {x : R Fl} {k : En → R Fl} {u : Tg k} {g : Fl → R β} {t : Tg g} : bnd (seqF x k u) g t = bnd x (fun a => (seqF (.ok a) k ⟨0⟩).bind g) ⟨0⟩ := by
  unfold bnd seqF
  cases x <;> rfl
theorem seq_seq {x : R Fl} {k : En → R Fl} {u : Tg k} {k2 : En → R Fl} {u2 : Tg k2} : seqF (seqF x k u) k2 u2 = bnd x (fun a => seqF (seqF (.ok a) k ⟨0⟩) k2 ⟨0⟩) ⟨0⟩ := by
  unfold bnd seqF
  cases x <;> rfl
theorem seq_for {asg : D → En → R En} {body : En → R Fl} {t1 t2} {ds : List D} {k : En → R Fl} {u : Tg k} : seqF (forF asg body t1 t2 ds e) k u = bnd (forF asg body t1 t2 ds e) (fun a => seqF (.ok a) k ⟨0⟩) ⟨0⟩ := by
  unfold bnd seqF
  cases (forF asg body t1 t2 ds e) <;> rfl
theorem seq_while {test : En → R (Bool × En)} {body : En → R Fl} {t1 t2} {n : Nat} {k : En → R Fl} {u : Tg k} : seqF (whileF test body t1 t2 n e) k u = bnd (whileF test body t1 t2 n e) (fun a => seqF (.ok a) k ⟨0⟩) ⟨0⟩ := by
  unfold bnd seqF
  cases (whileF test body t1 t2 n e) <;> rfl
theorem fin_nx : fin ds (.nx e) = .ok (.non, outsOf ds e) := by unfold fin; rfl
theorem fin_rt : fin ds (.rt d e) = .ok (d, outsOf ds e) := by unfold fin; rfl
theorem wp_ok {a : α} {P : α → Prop} : Wp (.ok a) P = P a := propext ⟨fun ⟨b, e, h⟩ => by cases e; exact h, fun h => ⟨a, rfl, h⟩⟩
theorem wp_eq {r : R α} {a : α} (h : Wp r (fun b => b = a)) : r = .ok a := by obtain ⟨b, e, h⟩ := h; rw [e, h]
theorem wp_of_eq {r : R α} {a : α} {P : α → Prop} (e : r = .ok a) (h : P a) : Wp r P := ⟨a, e, h⟩
theorem wp_mono {r : R α} {P Q : α → Prop} (h : Wp r P) (i : ∀ a, P a → Q a) : Wp r Q := by obtain ⟨a, e, h⟩ := h; exact ⟨a, e, i a h⟩
theorem wp_bnd {x : R α} {f : α → R β} {t : Tg f} {P : β → Prop} (h : Wp x (fun a => Wp (f a) P)) : Wp (bnd x f t) P := by
  obtain ⟨a, e, b, e2, h⟩ := h
  unfold bnd
  rw [e]
  exact ⟨b, e2, h⟩
theorem wp_back {is : List (Option Nat)} {e : En} {x : R (D × List (Option D))} {P : RV × En → Prop} (h : Wp x (fun r => ∃ e2, giveBack is r.2 e = some e2 ∧ P (.val r.1, e2))) : Wp (backF is e x) P := by
  obtain ⟨a, q, e2, h1, h2⟩ := h
  obtain ⟨d, outs⟩ := a
  rw [q]
  exact ⟨_, by simp only [backF, h1], h2⟩
theorem wp_noErr {x : R α} {f : α → R β} {t : Tg f} {P : β → Prop} : Wp (bnd (noErr x) f t) P = Wp (bnd x f t) P := by
  cases x with
  | ok a => rfl
  | stuck => rfl
  | err c fs e =>
    unfold bnd Wp
    exact propext ⟨fun ⟨a, h, _⟩ => by simp [noErr, R.bind] at h, fun ⟨a, h, _⟩ => by simp [R.bind] at h⟩
theorem noErr_ok {a : α} : noErr (.ok a) = .ok a := rfl
theorem lcL_wp {vs : List Nat} {asg : D → En → R En} {test : En → R (Bool × En)} {elt : En → R (D × En)} (Q : List D → En → Prop) (o : D → Option D → Prop) : ∀ (ds acc : List D) (e : En), acc.length + ds.length ≤ sizeLine → Q acc e →
    (∀ d ∈ ds, ∀ acc e, Q acc e → Wp ((asg d (wipeE e vs)).bind fun e1 => (test e1).bind fun p => if p.1 then (elt p.2).bind fun q => .ok (some q.1, q.2) else .ok (none, p.2)) (fun r => match r.1 with | some x => Q (acc ++ [x]) r.2 | none => Q acc r.2)) →
    Wp (lcL vs asg test elt ds acc e) (fun r => Q r.1 r.2)
  | [], acc, e, _, h, _ => ⟨_, rfl, h⟩
  | d :: ds, acc, e, hl, h, st => by
    obtain ⟨r, e1, h1⟩ := st d List.mem_cons_self acc e h
    have hlt : acc.length < sizeLine := by simp only [List.length_cons] at hl; omega
    unfold lcL
    cases ha : asg d (wipeE e vs) with
    | ok y1 =>
      rw [ha] at e1
      simp only [bind_ok] at e1 ⊢
      cases ht : test y1 with
      | ok y2 =>
        obtain ⟨b, y2⟩ := y2
        rw [ht] at e1
        simp only [bind_ok] at e1 ⊢
        by_cases hb : b = true
        · subst hb
          simp only [if_true] at e1 ⊢
          cases he : elt y2 with
          | ok y3 =>
            rw [he] at e1
            simp only [bind_ok, R.ok.injEq] at e1 ⊢
            subst e1
            rw [if_pos hlt]
            exact lcL_wp Q o ds _ _ (by simp only [List.length_append, List.length_cons, List.length_nil] at hl ⊢; omega) h1 fun d' hd => st d' (List.mem_cons_of_mem _ hd)
          | err _ _ _ => rw [he] at e1; cases e1
          | stuck => rw [he] at e1; cases e1
        · have hb' : b = false := by simpa using hb
          subst hb'
          simp only [Bool.false_eq_true, if_false, R.ok.injEq] at e1 ⊢
          subst e1
          exact lcL_wp Q o ds _ _ (by simp only [List.length_cons] at hl; omega) h1 fun d' hd => st d' (List.mem_cons_of_mem _ hd)
      | err _ _ _ => rw [ht] at e1; cases e1
      | stuck => rw [ht] at e1; cases e1
    | err _ _ _ => rw [ha] at e1; cases e1
    | stuck => rw [ha] at e1; cases e1
/-- a comprehension: what is made so far, and the slots -/
theorem lc_wp {vs : List Nat} {asg : D → En → R En} {test : En → R (Bool × En)} {elt : En → R (D × En)} {t1 t2 t3 f2 t4} {P : β → Prop} (Q : List D → En → Prop) {ds : List D} {e : En} (hl : ds.length ≤ sizeLine) (h0 : Q [] e)
    (st : ∀ d ∈ ds, ∀ acc e, Q acc e → Wp ((asg d (wipeE e vs)).bind fun e1 => (test e1).bind fun p => if p.1 then (elt p.2).bind fun q => .ok (some q.1, q.2) else .ok (none, p.2)) (fun r => match r.1 with | some x => Q (acc ++ [x]) r.2 | none => Q acc r.2))
    (k : ∀ out e', Q out e' → Wp (f2 (out, e')) P) : Wp (bnd (lcF vs asg test elt t1 t2 t3 ds [] e) f2 t4) P :=
  wp_bnd (wp_mono (lcL_wp Q (fun _ _ => True) ds [] e (by simpa using hl) h0 st) fun r h => k r.1 r.2 h)
/-- items by a function: kept as it says, or left out -/
theorem lcL_fm {vs : List Nat} {asg : D → En → R En} {test : En → R (Bool × En)} {elt : En → R (D × En)} (Q : En → Prop) (f : D → Option D) : ∀ (ds : List D) (e : En) (acc : List D), acc.length + ds.length ≤ sizeLine → Q e →
    (∀ d ∈ ds, ∀ e, Q e → Wp ((asg d (wipeE e vs)).bind fun e1 => (test e1).bind fun p => if p.1 then (elt p.2).bind fun q => .ok (some q.1, q.2) else .ok (none, p.2)) (fun r => r.1 = f d ∧ Q r.2)) →
    Wp (lcL vs asg test elt ds acc e) (fun r => r.1 = acc ++ ds.filterMap f ∧ Q r.2)
  | [], e, acc, _, h, _ => ⟨_, rfl, by simp, h⟩
  | d :: ds, e, acc, hl, h, st => by
    obtain ⟨r, e1, e2, h2⟩ := st d List.mem_cons_self e h
    have hlt : acc.length < sizeLine := by simp only [List.length_cons] at hl; omega
    unfold lcL
    cases ha : asg d (wipeE e vs) with
    | ok y1 =>
      rw [ha] at e1
      simp only [bind_ok] at e1 ⊢
      cases ht : test y1 with
      | ok y2 =>
        obtain ⟨b, y2⟩ := y2
        rw [ht] at e1
        simp only [bind_ok] at e1 ⊢
        by_cases hb : b = true
        · subst hb
          simp only [if_true] at e1 ⊢
          cases he : elt y2 with
          | ok y3 =>
            rw [he] at e1
            simp only [bind_ok, R.ok.injEq] at e1 ⊢
            subst e1
            rw [if_pos hlt]
            refine wp_mono (lcL_fm Q f ds y3.2 (acc ++ [y3.1]) (by simp only [List.length_append, List.length_cons, List.length_nil] at hl ⊢; omega) h2 fun d' hd => st d' (List.mem_cons_of_mem _ hd)) fun r ⟨q1, q2⟩ => ⟨?_, q2⟩
            rw [q1, List.filterMap_cons, ← e2]
            simp
          | err _ _ _ => rw [he] at e1; cases e1
          | stuck => rw [he] at e1; cases e1
        · have hb' : b = false := by simpa using hb
          subst hb'
          simp only [Bool.false_eq_true, if_false, R.ok.injEq] at e1 ⊢
          subst e1
          refine wp_mono (lcL_fm Q f ds _ acc (by simp only [List.length_cons] at hl; omega) h2 fun d' hd => st d' (List.mem_cons_of_mem _ hd)) fun r ⟨q1, q2⟩ => ⟨?_, q2⟩
          rw [q1, List.filterMap_cons, ← e2]
      | err _ _ _ => rw [ht] at e1; cases e1
      | stuck => rw [ht] at e1; cases e1
    | err _ _ _ => rw [ha] at e1; cases e1
    | stuck => rw [ha] at e1; cases e1
theorem lc_fm {vs : List Nat} {asg : D → En → R En} {test : En → R (Bool × En)} {elt : En → R (D × En)} {t1 t2 t3 f2 t4} {P : β → Prop} (Q : En → Prop) (f : D → Option D) {ds : List D} {e : En} (hl : ds.length ≤ sizeLine) (h0 : Q e)
    (st : ∀ d ∈ ds, ∀ e, Q e → Wp ((asg d (wipeE e vs)).bind fun e1 => (test e1).bind fun p => if p.1 then (elt p.2).bind fun q => .ok (some q.1, q.2) else .ok (none, p.2)) (fun r => r.1 = f d ∧ Q r.2))
    (k : ∀ e', Q e' → Wp (f2 (ds.filterMap f, e')) P) : Wp (bnd (lcF vs asg test elt t1 t2 t3 ds [] e) f2 t4) P :=
  wp_bnd (wp_mono (lcL_fm Q f ds e [] (by simpa using hl) h0 st) fun r ⟨h1, h2⟩ => by
    obtain ⟨a, b⟩ := r
    simp only [List.nil_append] at h1
    subst h1
    exact k b h2)
/-- all items kept, each by a function -/
theorem lc_map {vs : List Nat} {asg : D → En → R En} {test : En → R (Bool × En)} {elt : En → R (D × En)} {t1 t2 t3 f2 t4} {P : β → Prop} (Q : En → Prop) (f : D → D) {ds : List D} {e : En} (hl : ds.length ≤ sizeLine) (h0 : Q e)
    (st : ∀ d ∈ ds, ∀ e, Q e → Wp ((asg d (wipeE e vs)).bind fun e1 => (test e1).bind fun p => if p.1 then (elt p.2).bind fun q => .ok (some q.1, q.2) else .ok (none, p.2)) (fun r => r.1 = some (f d) ∧ Q r.2))
    (k : ∀ e', Q e' → Wp (f2 (ds.map f, e')) P) : Wp (bnd (lcF vs asg test elt t1 t2 t3 ds [] e) f2 t4) P :=
  lc_fm Q (fun d => some (f d)) hl h0 st fun e' h => by
    have : ds.filterMap (fun d => some (f d)) = ds.map f := by rw [← List.filterMap_eq_map]; rfl
    rw [this]; exact k e' h
/-- .. told turn by turn -/
theorem lcL_ix {vs : List Nat} {asg : D → En → R En} {test : En → R (Bool × En)} {elt : En → R (D × En)} (Q : Nat → List D → En → Prop) : ∀ (ds : List D) (i : Nat) (acc : List D) (e : En), acc.length + ds.length ≤ sizeLine → Q i acc e →
    (∀ j d acc e, ds[j]? = some d → Q (i + j) acc e → Wp ((asg d (wipeE e vs)).bind fun e1 => (test e1).bind fun p => if p.1 then (elt p.2).bind fun q => .ok (some q.1, q.2) else .ok (none, p.2)) (fun r => match r.1 with | some x => Q (i + j + 1) (acc ++ [x]) r.2 | none => Q (i + j + 1) acc r.2)) →
    Wp (lcL vs asg test elt ds acc e) (fun r => Q (i + ds.length) r.1 r.2)
  | [], i, acc, e, _, h, _ => ⟨_, rfl, h⟩
  | d :: ds, i, acc, e, hl, h, st => by
    obtain ⟨r, e1, h1⟩ := st 0 d acc e rfl h
    have hlt : acc.length < sizeLine := by simp only [List.length_cons] at hl; omega
    have more : ∀ acc' e', acc'.length + ds.length ≤ sizeLine → Q (i + 1) acc' e' → Wp (lcL vs asg test elt ds acc' e') (fun r => Q (i + (d :: ds).length) r.1 r.2) := fun acc' e' hl' hq => by
      have := lcL_ix Q ds (i + 1) acc' e' hl' hq fun j d acc e hd hp => by
        have := st (j + 1) d acc e (by simpa using hd) (by rwa [show i + (j + 1) = i + 1 + j by omega])
        rwa [show i + (j + 1) + 1 = i + 1 + j + 1 by omega] at this
      rwa [show i + 1 + ds.length = i + (d :: ds).length by simp only [List.length_cons]; omega] at this
    unfold lcL
    cases ha : asg d (wipeE e vs) with
    | ok y1 =>
      rw [ha] at e1
      simp only [bind_ok] at e1 ⊢
      cases ht : test y1 with
      | ok y2 =>
        obtain ⟨b, y2⟩ := y2
        rw [ht] at e1
        simp only [bind_ok] at e1 ⊢
        by_cases hb : b = true
        · subst hb
          simp only [if_true] at e1 ⊢
          cases he : elt y2 with
          | ok y3 =>
            rw [he] at e1
            simp only [bind_ok, R.ok.injEq] at e1 ⊢
            subst e1
            rw [if_pos hlt]
            exact more _ _ (by simp only [List.length_append, List.length_cons, List.length_nil] at hl ⊢; omega) h1
          | err _ _ _ => rw [he] at e1; cases e1
          | stuck => rw [he] at e1; cases e1
        · have hb' : b = false := by simpa using hb
          subst hb'
          simp only [Bool.false_eq_true, if_false, R.ok.injEq] at e1 ⊢
          subst e1
          exact more _ _ (by simp only [List.length_cons] at hl; omega) h1
      | err _ _ _ => rw [ht] at e1; cases e1
      | stuck => rw [ht] at e1; cases e1
    | err _ _ _ => rw [ha] at e1; cases e1
    | stuck => rw [ha] at e1; cases e1
theorem lc_ix {vs : List Nat} {asg : D → En → R En} {test : En → R (Bool × En)} {elt : En → R (D × En)} {t1 t2 t3 f2 t4} {P : β → Prop} (Q : Nat → List D → En → Prop) {ds : List D} {e : En} (hl : ds.length ≤ sizeLine) (h0 : Q 0 [] e)
    (st : ∀ j d acc e, ds[j]? = some d → Q j acc e → Wp ((asg d (wipeE e vs)).bind fun e1 => (test e1).bind fun p => if p.1 then (elt p.2).bind fun q => .ok (some q.1, q.2) else .ok (none, p.2)) (fun r => match r.1 with | some x => Q (j + 1) (acc ++ [x]) r.2 | none => Q (j + 1) acc r.2))
    (k : ∀ out e', Q ds.length out e' → Wp (f2 (out, e')) P) : Wp (bnd (lcF vs asg test elt t1 t2 t3 ds [] e) f2 t4) P :=
  wp_bnd (wp_mono (lcL_ix Q ds 0 [] e (by simpa using hl) h0 fun j d acc e hd hq => by
    have := st j d acc e hd (by simpa using hq)
    simpa using this) fun r h => k r.1 r.2 (by simpa using h))
/-- a loop: P before each turn, Z what is returned within -/
theorem for_wp {asg : D → En → R En} {body : En → R Fl} {t1 t2 f2 t4} {Pf : β → Prop} (P : Nat → En → Prop) (Z : D → En → Prop) {ds : List D} {e : En} (h0 : P 0 e)
    (st : ∀ j d e, ds[j]? = some d → P j e → Wp ((asg d e).bind body) (fun fl => match fl with | .nx e2 => P (j + 1) e2 | .ct e2 => P (j + 1) e2 | .rt x e2 => Z x e2 | .bk e2 => P ds.length e2))
    (k : ∀ e', P ds.length e' → Wp (f2 (.nx e')) Pf) (kr : ∀ x e', Z x e' → Wp (f2 (.rt x e')) Pf) : Wp (bnd (forF asg body t1 t2 ds e) f2 t4) Pf := by
  have go : ∀ (r : List D) (i : Nat) (e : En), i + r.length = ds.length → (∀ j d e, r[j]? = some d → P (i + j) e → Wp ((asg d e).bind body) (fun fl => match fl with | .nx e2 => P (i + j + 1) e2 | .ct e2 => P (i + j + 1) e2 | .rt x e2 => Z x e2 | .bk e2 => P ds.length e2)) → P i e →
      Wp (forL asg body r e) (fun fl => match fl with | .nx e2 => P ds.length e2 | .rt x e2 => Z x e2 | _ => False) := by
    intro r
    induction r with
    | nil => intro i e hl _ h; exact ⟨_, rfl, by simp only [List.length_nil, Nat.add_zero] at hl; rw [← hl]; exact h⟩
    | cons d r ih =>
      intro i e hl st h
      obtain ⟨fl, e1, h1⟩ := st 0 d e rfl h
      have rec_ : ∀ e2, P (i + 1) e2 → Wp (forL asg body r e2) (fun fl => match fl with | .nx e2 => P ds.length e2 | .rt x e2 => Z x e2 | _ => False) := fun e2 h2 =>
        ih (i + 1) e2 (by simp only [List.length_cons] at hl; omega) (fun j d e hd hp => by
          have := st (j + 1) d e (by simpa using hd) (by rwa [show i + (j + 1) = i + 1 + j by omega])
          rwa [show i + (j + 1) + 1 = i + 1 + j + 1 by omega] at this) h2
      unfold forL
      cases ha : asg d e with
      | ok y =>
        rw [ha] at e1
        simp only [bind_ok] at e1 ⊢
        rw [e1, bind_ok]
        cases fl with
        | nx e2 => exact rec_ e2 h1
        | ct e2 => exact rec_ e2 h1
        | bk e2 => exact ⟨_, rfl, h1⟩
        | rt x e2 => exact ⟨_, rfl, h1⟩
      | err _ _ _ => rw [ha] at e1; cases e1
      | stuck => rw [ha] at e1; cases e1
  refine wp_bnd (wp_mono (go ds 0 e (by simp) (fun j d e hd hp => by have := st j d e hd (by simpa using hp); simpa using this) h0) fun fl h => ?_)
  cases fl with
  | nx e2 => exact k e2 h
  | rt x e2 => exact kr x e2 h
  | bk e2 => exact h.elim
  | ct e2 => exact h.elim
end
end Ev

set_option Elab.async false
set_option linter.all false
set_option maxRecDepth 100000
set_option maxHeartbeats 4000000
/-! Ev35: statements one by one. -/
namespace Ev
open PySem L2
section
variable {M : Gb} {cl : Cl} {G : Cn} {w n : Nat} {e e1 e2 e3 : En}
theorem seqW {β : Type} {S : Stmt} {r : List Stmt} {g : Fl → R β} {P : β → Prop} (h : evS M cl G w n S e = .ok (.nx e1)) (k : Wp ((evSs M cl G w n r e1).bind g) P) : Wp ((evSs M cl G w (n + 1) (S :: r) e).bind g) P := by
  rw [evSs_seq]
  unfold seqF
  rw [h]
  exact k
theorem retW {β : Type} {S : Stmt} {r : List Stmt} {g : Fl → R β} {P : β → Prop} {d : D} (h : evS M cl G w n S e = .ok (.rt d e1)) (k : Wp (g (.rt d e1)) P) : Wp ((evSs M cl G w (n + 1) (S :: r) e).bind g) P := by
  rw [evSs_seq]
  unfold seqF
  rw [h]
  exact k
theorem evA_nil : evA M cl G (n + 1) [] e = .ok ([], e) := by unfold evA; rfl
theorem evA_cons {a : Expr} {r : List Expr} : evA M cl G (n + 1) (a :: r) e = (evO M cl G n a e).bind fun (v, e1) => (evA M cl G n r e1).bind fun (vs, e2) => .ok (v :: vs, e2) := by conv => lhs; unfold evA
theorem evA_2 {a b : Expr} {v w : RV} (h1 : evO M cl G (n + 1) a e = .ok (v, e1)) (h2 : evO M cl G n b e1 = .ok (w, e2)) : evA M cl G (n + 2) [a, b] e = .ok ([v, w], e2) := by
  rw [evA_cons, h1, bind_ok]
  cases n with
  | zero => unfold evO at h2; cases h2
  | succ n =>
    simp only [evA_cons, h2, bind_ok, evA_nil]
/-- f(a, b), f a def of the module -/
theorem evE_call2 {f : Str} {a b : Expr} {p p' : Pos} {v x : RV} {ds : List D} {is : List (Option Nat)} {d : D} {outs : List (Option D)} (hn : noStar [a, b] = true) (hf : slotOf G.N f = none) (hg : G.glob f = true) (hd : M.defs.contains f = true)
    (h1 : evO M cl G (n + 1) a e = .ok (v, e1)) (h2 : evO M cl G n b e1 = .ok (x, e2)) (hl : lend e2 [v, x] = some (ds, is, e3)) (hc : cl.at G f ds = .ok (d, outs)) {e4 : En} (hb : giveBack is outs e3 = some e4) :
    evE M cl G (n + 3) (.Call (.Name f p) [a, b] [] p') e = .ok (.val d, e4) := by
  have ha := evA_2 h1 h2
  unfold evE
  simp only [hn, hf, hg, hd, if_true, Bool.not_true, Bool.false_eq_true, if_false, ha, bind_ok, callF, hl, hc, backF, hb]
theorem evO_call2 {f : Str} {a b : Expr} {p p' : Pos} {v x : RV} {ds : List D} {is : List (Option Nat)} {d : D} {outs : List (Option D)} (hn : noStar [a, b] = true) (hf : slotOf G.N f = none) (hg : G.glob f = true) (hd : M.defs.contains f = true)
    (h1 : evO M cl G (n + 1) a e = .ok (v, e1)) (h2 : evO M cl G n b e1 = .ok (x, e2)) (hl : lend e2 [v, x] = some (ds, is, e3)) (hc : cl.at G f ds = .ok (d, outs)) {e4 : En} (hb : giveBack is outs e3 = some e4) :
    evO M cl G (n + 4) (.Call (.Name f p) [a, b] [] p') e = .ok (.val d, e4) := by
  unfold evO
  rw [evE_call2 hn hf hg hd h1 h2 hl hc hb]
  rfl
theorem evS_asg {x : Str} {p q : Pos} {v : Expr} {rv : RV} {d : D} {i : Nat} (hx : okN G x = true) (hs : slotOf G.N x = some i) (hl : G.loc x = true) (hb : G.bor.contains i = false) (h1 : evE M cl G w v e = .ok (rv, e1)) (h2 : take e1 rv = .ok (d, e2)) (hi : i < e2.length) :
    evS M cl G w (n + 1) (.Assign [.Name x p] v q) e = .ok (.nx (e2.set i (some d))) := by
  unfold evS
  simp only [hx, if_true, h1, bind_ok, h2, asgN_eq, hs, hl, hb, hi]
  rfl
theorem evE_blt1 {f : Str} {a : Expr} {p p' : Pos} {b : Bl} {v : RV} {d r : D} (hn : noStar [a] = true) (hl : ∀ ps y sc q, a ≠ .Lambda ps y sc q) (hf : slotOf G.N f = none) (hg : G.glob f = true) (hd : M.defs.contains f = false) (hr : M.free.contains f = true) (hb : bltOf f = some b)
    (h1 : evE M cl G n a e = .ok (v, e1)) (hc : content e1 v = some d) (h : callB b [d] = some r) : evE M cl G (n + 1) (.Call (.Name f p) [a] [] p') e = .ok (.val r, e1) := by
  cases a <;> first
    | exact absurd rfl (hl _ _ _ _)
    | (unfold evE
       simp only [hn, hf, hg, hd, hr, hb, if_true, Bool.not_true, Bool.false_eq_true, if_false, h1, bind_ok, hc, h, ofO_s])
theorem evO_of {x : Expr} {d : D} (h : evE M cl G n x e = .ok (.val d, e1)) : evO M cl G (n + 1) x e = .ok (.val d, e1) := by
  unfold evO
  rw [h]
  rfl
theorem evE_cmp1 {a b : Expr} {op : CmpOp} {p : Pos} {va vb : RV} {x y : D} {c : Bool} (ho : okC op b = true) (h1 : evO M cl G n a e = .ok (va, e1)) (h2 : evO M cl G n b e1 = .ok (vb, e2)) (hx : content e2 va = some x) (hy : content e2 vb = some y) (h : cmpop op x y = some c) :
    evE M cl G (n + 1) (.Compare a [op] [b] p) e = .ok (.val (.bl c), e2) := by
  conv => lhs; unfold evE
  simp only [ho, if_true, h1, bind_ok, h2, hx, hy, h, ofO_s]
theorem evS_ret {x : Expr} {p : Pos} {d : D} (h : evE M cl G w x e = .ok (.val d, e1)) : evS M cl G w (n + 1) (.Return (some x) p) e = .ok (.rt d e1) := by
  unfold evS
  simp only [h, bind_ok]
theorem repr_some {d : D} {p : PyData} (h1 : toPy d = some p) (h2 : (p.showable && decide (p.depth ≤ 64)) = true) (h3 : lenOk p.shown.length = true) : callB .repr [d] = some (.str p.shown) := by
  simp only [callB, h1, h2, h3, Bool.true_and, if_true]
theorem eq_str {x : Str} (h : PyData.strOk x = true) : cmpop .Eq (.str x) (.str x) = some true := by
  have h : SeqAt.shaped (.str x) = true := by simp [SeqAt.shaped, PyData.canLay0, PyData.depth, h]
  simp [cmpop, eqD, toPy, h, PyData.eqv]
theorem evS_tup {ts vs : List Expr} {j1 j2 : Nat} {p1 p2 q : Pos} {rs : List RV} {ds : List D} (hsw : swap G ts vs = .no) (hc : (ts.length == vs.length && tgOk ts) = true) (h1 : evA M cl G w vs e = .ok (rs, e1)) (h2 : takes e1 rs = .ok (ds, e2)) (hl : (lenOk ds.length && ts.length == ds.length) = true) (h3 : asgEach M cl G w ts ds e2 = .ok e3) :
    evS M cl G w (n + 1) (.Assign [.Tuple ts j1 p1] (.Tuple vs j2 p2) q) e = .ok (.nx e3) := by
  unfold evS
  simp only [hsw, hc, if_true, h1, bind_ok, h2, hl, h3]
end
end Ev

set_option Elab.async false
set_option linter.all false
set_option maxRecDepth 100000
set_option maxHeartbeats 4000000
/-! Ev36: the text of a list of short texts. -/
namespace Ev
open PySem L2
theorem ok_app {a b : Str} (h1 : PyData.strOk a = true) (h2 : PyData.strOk b = true) : PyData.strOk (a ++ b) = true := by
  show (a.cps ++ b.cps).all _ = true
  rw [Array.all_append, Bool.and_eq_true]
  exact ⟨h1, h2⟩
/-- a short text of lawful signs -/
def okT (t : Str) : Bool := decide (t.length ≤ 100) && PyData.strOk t
theorem text_from : ∀ (ts : List Str) (k : Nat) (acc : Str), (∀ t ∈ ts, okT t = true) → PyData.strOk acc = true → (textFrom k acc ts).length ≤ acc.length + 102 * ts.length ∧ PyData.strOk (textFrom k acc ts) = true
  | [], k, acc, _, h => ⟨Nat.le_add_right _ _, h⟩
  | t :: ts, k, acc, hts, h => by
    obtain ⟨t1, t2⟩ := Bool.and_eq_true_iff.mp (hts t List.mem_cons_self)
    have t1 := of_decide_eq_true t1
    have sep : ((if k > 0 then ", " else "" : String) : Str).length ≤ 2 ∧ PyData.strOk ((if k > 0 then ", " else "" : String) : Str) = true := by
      by_cases hk : k > 0
      · rw [if_pos hk]; exact ⟨by decide, by decide +kernel⟩
      · rw [if_neg hk]; exact ⟨by decide, by decide +kernel⟩
    obtain ⟨h1, h2⟩ := text_from ts (k + 1) (acc ++ (if k > 0 then ", " else "" : String) ++ t) (fun u hu => hts u (List.mem_cons_of_mem _ hu)) (ok_app (ok_app h sep.2) t2)
    refine ⟨Nat.le_trans h1 ?_, h2⟩
    rw [strLen_append, strLen_append, List.length_cons]
    have := sep.1
    omega
theorem list_text {ts : List Str} (h : ts.all okT = true) (hl : ts.length ≤ 10000) : lenOk (listText ts).length = true ∧ PyData.strOk (listText ts) = true := by
  obtain ⟨h1, h2⟩ := text_from ts 0 "[" (fun t ht => List.all_eq_true.mp h t ht) (by decide +kernel)
  refine ⟨?_, ok_app h2 (by decide +kernel)⟩
  unfold lenOk listText
  rw [decide_eq_true_eq, strLen_append, sizeLine_eq]
  have e1 : ((("[" : String) : Str)).length = 1 := by decide
  have e2 : ((("]" : String) : Str)).length = 1 := by decide
  rw [e1] at h1
  rw [e2]
  omega
theorem shown_list (ps : List PyData) : (PyData.list ps).shown = listText (ps.map PyData.shown) := by
  have : ∀ ps : List PyData, PyData.shownAll ps = ps.map PyData.shown := fun ps => by
    induction ps with
    | nil => rfl
    | cons p r ih => simp only [PyData.shownAll, List.map_cons, ih]
  simp only [PyData.shown, this]
/-- a list of data whose texts are short -/
theorem repr_list {m : Mk} {ds : List D} {ps : List PyData} (h1 : toPyL ds = some ps) (h2 : ((PyData.list ps).showable && decide ((PyData.list ps).depth ≤ 64)) = true) (h3 : (ps.map PyData.shown).all okT = true) (hl : ps.length ≤ 10000) :
    callB .repr [.lst m ds] = some (.str (PyData.list ps).shown) ∧ PyData.strOk (PyData.list ps).shown = true := by
  obtain ⟨k1, k2⟩ := list_text h3 (by simpa using hl)
  exact ⟨repr_some (by simp [toPy, h1]) h2 (by rw [shown_list]; exact k1), by rw [shown_list]; exact k2⟩
end Ev

set_option Elab.async false
set_option linter.all false
set_option maxRecDepth 100000
namespace K23
open PySem L2 Ev
abbrev s (x : String) : Str := Str.ofString x
abbrev top (i : Nat) : Stmt := PySem.Challenge.pw_allclocks_k23_errors_of_tables.main.body.getD i (.Pass ⟨0, 0, 0, 0⟩)
def cM : Gb := { consts := [(s "FAR", (.int (1000000000000000000000000000000000000000000000000000000000000))), (s "PAIR_SIZE", (.int (2))), (s "ZERO", (.tup [(.int (0)), (.int (1))])), (s "MOST_FIRST", (.int (25))), (s "MOST_LAST", (.int (24))), (s "NO_END", (.int (-1))), (s "MOST_THINGS", (.int (6)))], defs := [s "is_whole", s "is_short", s "is_within", s "is_pair", s "is_ascending", s "share", s "minus", s "is_share", s "is_short_share", s "is_time", s "is_stretch", s "is_bound", s "add_bounds", s "add_bounds_marks", s "is_tighter", s "tight", s "keeps_bound", s "upper_bound", s "lower_bound", s "are_stretches", s "require_integer", s "free_table", s "close_table", s "is_table_in", s "with_bound", s "is_inside", s "met", s "holds_all", s "drawn_in", s "numbers_in", s "with_stretches", s "let_wait", s "reset_zone", s "from_zero", s "is_zone_of", s "sum_of_ring", s "ring_of", s "least_ring", s "is_ring_in", s "is_table_value", s "is_zone_value", s "require_table", s "require_zone", s "require_two", s "add_bounds_tables", s "zone_of", s "ring_in", s "is_ring", s "has_point", s "point_in", s "is_zone_in", s "common", s "later", s "put_to_zero", s "kept_by", s "zero_zone", s "whole_zone", s "_law_dice", s "_law_roll", s "_law_pick", s "_law_met", s "_law_right", s "law"], free := [s "len", s "abs", s "max", s "min", s "int", s "isinstance", s "list", s "tuple", s "any", s "all", s "repr", s "range", s "enumerate", s "zip", s "bool", s "set"], excs := [(s "InvalidNumber", .own (s "value")), (s "InvalidTable", .plain), (s "InvalidOperation", .plain)], exm := [((s "InvalidNumber", s "InvalidFraction"), false), ((s "InvalidNumber", s "InvalidMachine"), false), ((s "InvalidNumber", s "InvalidStanding"), false), ((s "InvalidNumber", s "InvalidRun"), false), ((s "InvalidNumber", s "InvalidRow"), false), ((s "InvalidNumber", s "InvalidTarget"), false), ((s "InvalidNumber", s "InvalidTable"), false), ((s "InvalidNumber", s "InvalidRegion"), false), ((s "InvalidNumber", s "InvalidPrices"), false), ((s "InvalidNumber", s "InvalidClaim"), false), ((s "InvalidNumber", s "InvalidOperation"), false), ((s "InvalidNumber", s "InvalidNumber"), true), ((s "InvalidNumber", s "TooMany"), false), ((s "InvalidNumber", s "Refused"), false), ((s "InvalidTable", s "InvalidFraction"), false), ((s "InvalidTable", s "InvalidMachine"), false), ((s "InvalidTable", s "InvalidStanding"), false), ((s "InvalidTable", s "InvalidRun"), false), ((s "InvalidTable", s "InvalidRow"), false), ((s "InvalidTable", s "InvalidTarget"), false), ((s "InvalidTable", s "InvalidTable"), true), ((s "InvalidTable", s "InvalidRegion"), false), ((s "InvalidTable", s "InvalidPrices"), false), ((s "InvalidTable", s "InvalidClaim"), false), ((s "InvalidTable", s "InvalidOperation"), false), ((s "InvalidTable", s "InvalidNumber"), false), ((s "InvalidTable", s "TooMany"), false), ((s "InvalidTable", s "Refused"), false), ((s "InvalidOperation", s "InvalidFraction"), false), ((s "InvalidOperation", s "InvalidMachine"), false), ((s "InvalidOperation", s "InvalidStanding"), false), ((s "InvalidOperation", s "InvalidRun"), false), ((s "InvalidOperation", s "InvalidRow"), false), ((s "InvalidOperation", s "InvalidTarget"), false), ((s "InvalidOperation", s "InvalidTable"), false), ((s "InvalidOperation", s "InvalidRegion"), false), ((s "InvalidOperation", s "InvalidPrices"), false), ((s "InvalidOperation", s "InvalidClaim"), false), ((s "InvalidOperation", s "InvalidOperation"), true), ((s "InvalidOperation", s "InvalidNumber"), false), ((s "InvalidOperation", s "TooMany"), false), ((s "InvalidOperation", s "Refused"), false)], mods := [(s "gcd", .gcd)] }
def d_is_whole : Df := { st := top 20, N := [s "value"], np := 1 }
def d_is_short : Df := { st := top 21, N := [s "value"], np := 1 }
def d_is_within : Df := { st := top 22, N := [s "value", s "least", s "most"], np := 3 }
def d_is_pair : Df := { st := top 23, N := [s "value"], np := 1 }
def d_is_ascending : Df := { st := top 24, N := [s "items", s "one", s "other"], np := 1 }
def d_share : Df := { st := top 27, N := [s "top", s "bottom", s "common"], np := 2 }
def d_minus : Df := { st := top 28, N := [s "one", s "other"], np := 2 }
def d_is_share : Df := { st := top 29, N := [s "value"], np := 1 }
def d_is_short_share : Df := { st := top 30, N := [s "value"], np := 1 }
def d_is_time : Df := { st := top 35, N := [s "value"], np := 1 }
def d_is_stretch : Df := { st := top 36, N := [s "value"], np := 1 }
def d_is_bound : Df := { st := top 37, N := [s "value"], np := 1 }
def d_add_bounds : Df := { st := top 74, N := [s "one", s "other"], np := 2 }
def d_add_bounds_marks : Df := { st := top 38, N := [s "one", s "other"], np := 2 }
def d_is_tighter : Df := { st := top 40, N := [s "one", s "other"], np := 2 }
def d_tight : Df := { st := top 41, N := [s "one", s "other"], np := 2 }
def d_keeps_bound : Df := { st := top 42, N := [s "difference", s "bound"], np := 2 }
def d_upper_bound : Df := { st := top 43, N := [s "stretch"], np := 1 }
def d_lower_bound : Df := { st := top 44, N := [s "stretch"], np := 1 }
def d_are_stretches : Df := { st := top 46, N := [s "watches", s "value", s "one"], np := 2 }
def d_require_integer : Df := { st := top 47, N := [s "value", s "least", s "most"], np := 3 }
def d_free_table : Df := { st := top 49, N := [s "size", s "column", s "row"], np := 1 }
def d_close_table : Df := { st := top 50, N := [s "table", s "size", s "rows", s "at", s "row", s "column", s "bound", s "middle", s "one", s "other", s "way"], np := 1 }
def d_is_table_in : Df := { st := top 51, N := [s "size", s "value", s "one", s "row"], np := 2 }
def d_with_bound : Df := { st := top 52, N := [s "table", s "one", s "other", s "bound", s "rows", s "row"], np := 4 }
def d_is_inside : Df := { st := top 53, N := [s "one", s "other", s "row", s "wide", s "near", s "far"], np := 2 }
def d_met : Df := { st := top 54, N := [s "one", s "other", s "rows", s "near", s "far", s "row", s "wide"], np := 2 }
def d_holds_all : Df := { st := top 55, N := [s "table", s "numbers", s "one", s "row", s "other", s "bound"], np := 2 }
def d_drawn_in : Df := { st := top 56, N := [s "table", s "size", s "rows", s "bound", s "row", s "middle", s "one", s "other", s "way"], np := 1 }
def d_numbers_in : Df := { st := top 57, N := [s "table", s "bound"], np := 1 }
def d_with_stretches : Df := { st := top 58, N := [s "zone", s "stretches", s "table", s "watch", s "stretch"], np := 2 }
def d_let_wait : Df := { st := top 59, N := [s "zone", s "rows", s "row"], np := 1 }
def d_reset_zone : Df := { st := top 60, N := [s "zone", s "resets", s "spots", s "at", s "rows", s "one", s "other"], np := 2 }
def d_from_zero : Df := { st := top 63, N := [s "table", s "rows", s "at", s "row", s "told", s "column", s "bound"], np := 1 }
def d_is_zone_of : Df := { st := top 64, N := [s "size", s "value", s "bound"], np := 2 }
def d_sum_of_ring : Df := { st := top 65, N := [s "table", s "ring", s "found", s "at", s "thing"], np := 2 }
def d_ring_of : Df := { st := top 66, N := [s "table", s "size", s "first", s "ways", s "step", s "later", s "thing", s "bound", s "way", s "other", s "more"], np := 1 }
def d_least_ring : Df := { st := top 67, N := [s "table", s "walk", s "seen", s "at", s "thing", s "ring"], np := 2 }
def d_is_ring_in : Df := { st := top 68, N := [s "table", s "value", s "one", s "told"], np := 2 }
def d_is_table_value : Df := { st := top 69, N := [s "value"], np := 1 }
def d_is_zone_value : Df := { st := top 70, N := [s "value"], np := 1 }
def d_require_table : Df := { st := top 71, N := [s "value"], np := 1 }
def d_require_zone : Df := { st := top 72, N := [s "value"], np := 1 }
def d_require_two : Df := { st := top 73, N := [s "one", s "other"], np := 2 }
def d_add_bounds_tables : Df := { st := top 74, N := [s "one", s "other"], np := 2 }
def d_zone_of : Df := { st := top 76, N := [s "table"], np := 1 }
def d_ring_in : Df := { st := top 77, N := [s "table"], np := 1 }
def d_is_ring : Df := { st := top 78, N := [s "table", s "value"], np := 2 }
def d_has_point : Df := { st := top 79, N := [s "zone", s "numbers", s "one"], np := 2 }
def d_point_in : Df := { st := top 80, N := [s "zone"], np := 1 }
def d_is_zone_in : Df := { st := top 81, N := [s "one", s "other"], np := 2 }
def d_common : Df := { st := top 82, N := [s "one", s "other"], np := 2 }
def d_later : Df := { st := top 83, N := [s "zone"], np := 1 }
def d_put_to_zero : Df := { st := top 84, N := [s "zone", s "lot", s "one"], np := 2 }
def d_kept_by : Df := { st := top 85, N := [s "zone", s "stretches"], np := 2 }
def d_zero_zone : Df := { st := top 86, N := [s "n", s "row"], np := 1 }
def d_whole_zone : Df := { st := top 87, N := [s "n"], np := 1 }
def d__law_dice : Df := { st := top 89, N := [s "script", s "spot", s "cell", s "great"], np := 2 }
def d__law_roll : Df := { st := top 90, N := [s "dice", s "total", s "found", s "one", s "two"], np := 2 }
def d__law_pick : Df := { st := top 91, N := [s "dice", s "items"], np := 2 }
def d__law_met : Df := { st := top 92, N := [s "call", s "error"], np := 1, clo := true }
def d__law_right : Df := { st := top 93, N := [s "dice", s "some", s "zone", s "good", s "table", s "bound", s "numbers", s "lot", s "stretches", s "n", s "told", s "due", s "call", s "words", s "word"], np := 1, lam := true }
def d_law : Df := { st := top 94, N := [s "script", s "spot", s "dice", s "turn", s "six"], np := 1 }
def cT : List (Str × Df) := [(s "is_whole", d_is_whole), (s "is_short", d_is_short), (s "is_within", d_is_within), (s "is_pair", d_is_pair), (s "is_ascending", d_is_ascending), (s "share", d_share), (s "minus", d_minus), (s "is_share", d_is_share), (s "is_short_share", d_is_short_share), (s "is_time", d_is_time), (s "is_stretch", d_is_stretch), (s "is_bound", d_is_bound), (s "add_bounds", d_add_bounds), (s "add_bounds_marks", d_add_bounds_marks), (s "is_tighter", d_is_tighter), (s "tight", d_tight), (s "keeps_bound", d_keeps_bound), (s "upper_bound", d_upper_bound), (s "lower_bound", d_lower_bound), (s "are_stretches", d_are_stretches), (s "require_integer", d_require_integer), (s "free_table", d_free_table), (s "close_table", d_close_table), (s "is_table_in", d_is_table_in), (s "with_bound", d_with_bound), (s "is_inside", d_is_inside), (s "met", d_met), (s "holds_all", d_holds_all), (s "drawn_in", d_drawn_in), (s "numbers_in", d_numbers_in), (s "with_stretches", d_with_stretches), (s "let_wait", d_let_wait), (s "reset_zone", d_reset_zone), (s "from_zero", d_from_zero), (s "is_zone_of", d_is_zone_of), (s "sum_of_ring", d_sum_of_ring), (s "ring_of", d_ring_of), (s "least_ring", d_least_ring), (s "is_ring_in", d_is_ring_in), (s "is_table_value", d_is_table_value), (s "is_zone_value", d_is_zone_value), (s "require_table", d_require_table), (s "require_zone", d_require_zone), (s "require_two", d_require_two), (s "add_bounds_tables", d_add_bounds_tables), (s "zone_of", d_zone_of), (s "ring_in", d_ring_in), (s "is_ring", d_is_ring), (s "has_point", d_has_point), (s "point_in", d_point_in), (s "is_zone_in", d_is_zone_in), (s "common", d_common), (s "later", d_later), (s "put_to_zero", d_put_to_zero), (s "kept_by", d_kept_by), (s "zero_zone", d_zero_zone), (s "whole_zone", d_whole_zone), (s "_law_dice", d__law_dice), (s "_law_roll", d__law_roll), (s "_law_pick", d__law_pick), (s "_law_met", d__law_met), (s "_law_right", d__law_right), (s "law", d_law)]
theorem s_is_whole : DfS d_is_whole (s "is_whole") (s "is_whole") [s "value"] := ⟨⟨rfl, rfl, rfl, by decide +kernel, rfl, by decide +kernel, by decide +kernel⟩, rfl, by decide +kernel, fun _ _ _ _ _ _ us hl => match us, hl with | [_], _ => rfl⟩
theorem s_is_short : DfS d_is_short (s "is_short") (s "is_short") [s "value"] := ⟨⟨rfl, rfl, rfl, by decide +kernel, rfl, by decide +kernel, by decide +kernel⟩, rfl, by decide +kernel, fun _ _ _ _ _ _ us hl => match us, hl with | [_], _ => rfl⟩
theorem s_is_within : DfS d_is_within (s "is_within") (s "is_within") [s "value", s "least", s "most"] := ⟨⟨rfl, rfl, rfl, by decide +kernel, rfl, by decide +kernel, by decide +kernel⟩, rfl, by decide +kernel, fun _ _ _ _ _ _ us hl => match us, hl with | [_, _, _], _ => rfl⟩
theorem s_is_pair : DfS d_is_pair (s "is_pair") (s "is_pair") [s "value"] := ⟨⟨rfl, rfl, rfl, by decide +kernel, rfl, by decide +kernel, by decide +kernel⟩, rfl, by decide +kernel, fun _ _ _ _ _ _ us hl => match us, hl with | [_], _ => rfl⟩
theorem s_is_ascending : DfS d_is_ascending (s "is_ascending") (s "is_ascending") [s "items"] := ⟨⟨rfl, rfl, rfl, by decide +kernel, rfl, by decide +kernel, by decide +kernel⟩, rfl, by decide +kernel, fun _ _ _ _ _ _ us hl => match us, hl with | [_], _ => rfl⟩
theorem s_share : DfS d_share (s "share") (s "share") [s "top", s "bottom"] := ⟨⟨rfl, rfl, rfl, by decide +kernel, rfl, by decide +kernel, by decide +kernel⟩, rfl, by decide +kernel, fun _ _ _ _ _ _ us hl => match us, hl with | [_, _], _ => rfl⟩
theorem s_minus : DfS d_minus (s "minus") (s "minus") [s "one", s "other"] := ⟨⟨rfl, rfl, rfl, by decide +kernel, rfl, by decide +kernel, by decide +kernel⟩, rfl, by decide +kernel, fun _ _ _ _ _ _ us hl => match us, hl with | [_, _], _ => rfl⟩
theorem s_is_share : DfS d_is_share (s "is_share") (s "is_share") [s "value"] := ⟨⟨rfl, rfl, rfl, by decide +kernel, rfl, by decide +kernel, by decide +kernel⟩, rfl, by decide +kernel, fun _ _ _ _ _ _ us hl => match us, hl with | [_], _ => rfl⟩
theorem s_is_short_share : DfS d_is_short_share (s "is_short_share") (s "is_short_share") [s "value"] := ⟨⟨rfl, rfl, rfl, by decide +kernel, rfl, by decide +kernel, by decide +kernel⟩, rfl, by decide +kernel, fun _ _ _ _ _ _ us hl => match us, hl with | [_], _ => rfl⟩
theorem s_is_time : DfS d_is_time (s "is_time") (s "is_time") [s "value"] := ⟨⟨rfl, rfl, rfl, by decide +kernel, rfl, by decide +kernel, by decide +kernel⟩, rfl, by decide +kernel, fun _ _ _ _ _ _ us hl => match us, hl with | [_], _ => rfl⟩
theorem s_is_stretch : DfS d_is_stretch (s "is_stretch") (s "is_stretch") [s "value"] := ⟨⟨rfl, rfl, rfl, by decide +kernel, rfl, by decide +kernel, by decide +kernel⟩, rfl, by decide +kernel, fun _ _ _ _ _ _ us hl => match us, hl with | [_], _ => rfl⟩
theorem s_is_bound : DfS d_is_bound (s "is_bound") (s "is_bound") [s "value"] := ⟨⟨rfl, rfl, rfl, by decide +kernel, rfl, by decide +kernel, by decide +kernel⟩, rfl, by decide +kernel, fun _ _ _ _ _ _ us hl => match us, hl with | [_], _ => rfl⟩
theorem s_add_bounds : DfS d_add_bounds (s "add_bounds") (s "add_bounds") [s "one", s "other"] := ⟨⟨rfl, rfl, rfl, by decide +kernel, rfl, by decide +kernel, by decide +kernel⟩, rfl, by decide +kernel, fun _ _ _ _ _ _ us hl => match us, hl with | [_, _], _ => rfl⟩
theorem s_add_bounds_marks : DfS d_add_bounds_marks (s "add_bounds") (s "add_bounds") [s "one", s "other"] := ⟨⟨rfl, rfl, rfl, by decide +kernel, rfl, by decide +kernel, by decide +kernel⟩, rfl, by decide +kernel, fun _ _ _ _ _ _ us hl => match us, hl with | [_, _], _ => rfl⟩
theorem s_is_tighter : DfS d_is_tighter (s "is_tighter") (s "is_tighter") [s "one", s "other"] := ⟨⟨rfl, rfl, rfl, by decide +kernel, rfl, by decide +kernel, by decide +kernel⟩, rfl, by decide +kernel, fun _ _ _ _ _ _ us hl => match us, hl with | [_, _], _ => rfl⟩
theorem s_tight : DfS d_tight (s "tight") (s "tight") [s "one", s "other"] := ⟨⟨rfl, rfl, rfl, by decide +kernel, rfl, by decide +kernel, by decide +kernel⟩, rfl, by decide +kernel, fun _ _ _ _ _ _ us hl => match us, hl with | [_, _], _ => rfl⟩
theorem s_keeps_bound : DfS d_keeps_bound (s "keeps_bound") (s "keeps_bound") [s "difference", s "bound"] := ⟨⟨rfl, rfl, rfl, by decide +kernel, rfl, by decide +kernel, by decide +kernel⟩, rfl, by decide +kernel, fun _ _ _ _ _ _ us hl => match us, hl with | [_, _], _ => rfl⟩
theorem s_upper_bound : DfS d_upper_bound (s "upper_bound") (s "upper_bound") [s "stretch"] := ⟨⟨rfl, rfl, rfl, by decide +kernel, rfl, by decide +kernel, by decide +kernel⟩, rfl, by decide +kernel, fun _ _ _ _ _ _ us hl => match us, hl with | [_], _ => rfl⟩
theorem s_lower_bound : DfS d_lower_bound (s "lower_bound") (s "lower_bound") [s "stretch"] := ⟨⟨rfl, rfl, rfl, by decide +kernel, rfl, by decide +kernel, by decide +kernel⟩, rfl, by decide +kernel, fun _ _ _ _ _ _ us hl => match us, hl with | [_], _ => rfl⟩
theorem s_are_stretches : DfS d_are_stretches (s "are_stretches") (s "are_stretches") [s "watches", s "value"] := ⟨⟨rfl, rfl, rfl, by decide +kernel, rfl, by decide +kernel, by decide +kernel⟩, rfl, by decide +kernel, fun _ _ _ _ _ _ us hl => match us, hl with | [_, _], _ => rfl⟩
theorem s_require_integer : DfS d_require_integer (s "require_integer") (s "require_integer") [s "value", s "least", s "most"] := ⟨⟨rfl, rfl, rfl, by decide +kernel, rfl, by decide +kernel, by decide +kernel⟩, rfl, by decide +kernel, fun _ _ _ _ _ _ us hl => match us, hl with | [_, _, _], _ => rfl⟩
theorem s_free_table : DfS d_free_table (s "free_table") (s "free_table") [s "size"] := ⟨⟨rfl, rfl, rfl, by decide +kernel, rfl, by decide +kernel, by decide +kernel⟩, rfl, by decide +kernel, fun _ _ _ _ _ _ us hl => match us, hl with | [_], _ => rfl⟩
theorem s_close_table : DfS d_close_table (s "close_table") (s "close_table") [s "table"] := ⟨⟨rfl, rfl, rfl, by decide +kernel, rfl, by decide +kernel, by decide +kernel⟩, rfl, by decide +kernel, fun _ _ _ _ _ _ us hl => match us, hl with | [_], _ => rfl⟩
theorem s_is_table_in : DfS d_is_table_in (s "is_table_in") (s "is_table_in") [s "size", s "value"] := ⟨⟨rfl, rfl, rfl, by decide +kernel, rfl, by decide +kernel, by decide +kernel⟩, rfl, by decide +kernel, fun _ _ _ _ _ _ us hl => match us, hl with | [_, _], _ => rfl⟩
theorem s_with_bound : DfS d_with_bound (s "with_bound") (s "with_bound") [s "table", s "one", s "other", s "bound"] := ⟨⟨rfl, rfl, rfl, by decide +kernel, rfl, by decide +kernel, by decide +kernel⟩, rfl, by decide +kernel, fun _ _ _ _ _ _ us hl => match us, hl with | [_, _, _, _], _ => rfl⟩
theorem s_is_inside : DfS d_is_inside (s "is_inside") (s "is_inside") [s "one", s "other"] := ⟨⟨rfl, rfl, rfl, by decide +kernel, rfl, by decide +kernel, by decide +kernel⟩, rfl, by decide +kernel, fun _ _ _ _ _ _ us hl => match us, hl with | [_, _], _ => rfl⟩
theorem s_met : DfS d_met (s "met") (s "met") [s "one", s "other"] := ⟨⟨rfl, rfl, rfl, by decide +kernel, rfl, by decide +kernel, by decide +kernel⟩, rfl, by decide +kernel, fun _ _ _ _ _ _ us hl => match us, hl with | [_, _], _ => rfl⟩
theorem s_holds_all : DfS d_holds_all (s "holds_all") (s "holds_all") [s "table", s "numbers"] := ⟨⟨rfl, rfl, rfl, by decide +kernel, rfl, by decide +kernel, by decide +kernel⟩, rfl, by decide +kernel, fun _ _ _ _ _ _ us hl => match us, hl with | [_, _], _ => rfl⟩
theorem s_drawn_in : DfS d_drawn_in (s "drawn_in") (s "drawn_in") [s "table"] := ⟨⟨rfl, rfl, rfl, by decide +kernel, rfl, by decide +kernel, by decide +kernel⟩, rfl, by decide +kernel, fun _ _ _ _ _ _ us hl => match us, hl with | [_], _ => rfl⟩
theorem s_numbers_in : DfS d_numbers_in (s "numbers_in") (s "numbers_in") [s "table"] := ⟨⟨rfl, rfl, rfl, by decide +kernel, rfl, by decide +kernel, by decide +kernel⟩, rfl, by decide +kernel, fun _ _ _ _ _ _ us hl => match us, hl with | [_], _ => rfl⟩
theorem s_with_stretches : DfS d_with_stretches (s "with_stretches") (s "with_stretches") [s "zone", s "stretches"] := ⟨⟨rfl, rfl, rfl, by decide +kernel, rfl, by decide +kernel, by decide +kernel⟩, rfl, by decide +kernel, fun _ _ _ _ _ _ us hl => match us, hl with | [_, _], _ => rfl⟩
theorem s_let_wait : DfS d_let_wait (s "let_wait") (s "let_wait") [s "zone"] := ⟨⟨rfl, rfl, rfl, by decide +kernel, rfl, by decide +kernel, by decide +kernel⟩, rfl, by decide +kernel, fun _ _ _ _ _ _ us hl => match us, hl with | [_], _ => rfl⟩
theorem s_reset_zone : DfS d_reset_zone (s "reset_zone") (s "reset_zone") [s "zone", s "resets"] := ⟨⟨rfl, rfl, rfl, by decide +kernel, rfl, by decide +kernel, by decide +kernel⟩, rfl, by decide +kernel, fun _ _ _ _ _ _ us hl => match us, hl with | [_, _], _ => rfl⟩
theorem s_from_zero : DfS d_from_zero (s "from_zero") (s "from_zero") [s "table"] := ⟨⟨rfl, rfl, rfl, by decide +kernel, rfl, by decide +kernel, by decide +kernel⟩, rfl, by decide +kernel, fun _ _ _ _ _ _ us hl => match us, hl with | [_], _ => rfl⟩
theorem s_is_zone_of : DfS d_is_zone_of (s "is_zone_of") (s "is_zone_of") [s "size", s "value"] := ⟨⟨rfl, rfl, rfl, by decide +kernel, rfl, by decide +kernel, by decide +kernel⟩, rfl, by decide +kernel, fun _ _ _ _ _ _ us hl => match us, hl with | [_, _], _ => rfl⟩
theorem s_sum_of_ring : DfS d_sum_of_ring (s "sum_of_ring") (s "sum_of_ring") [s "table", s "ring"] := ⟨⟨rfl, rfl, rfl, by decide +kernel, rfl, by decide +kernel, by decide +kernel⟩, rfl, by decide +kernel, fun _ _ _ _ _ _ us hl => match us, hl with | [_, _], _ => rfl⟩
theorem s_ring_of : DfS d_ring_of (s "ring_of") (s "ring_of") [s "table"] := ⟨⟨rfl, rfl, rfl, by decide +kernel, rfl, by decide +kernel, by decide +kernel⟩, rfl, by decide +kernel, fun _ _ _ _ _ _ us hl => match us, hl with | [_], _ => rfl⟩
theorem s_least_ring : DfS d_least_ring (s "least_ring") (s "least_ring") [s "table", s "walk"] := ⟨⟨rfl, rfl, rfl, by decide +kernel, rfl, by decide +kernel, by decide +kernel⟩, rfl, by decide +kernel, fun _ _ _ _ _ _ us hl => match us, hl with | [_, _], _ => rfl⟩
theorem s_is_ring_in : DfS d_is_ring_in (s "is_ring_in") (s "is_ring_in") [s "table", s "value"] := ⟨⟨rfl, rfl, rfl, by decide +kernel, rfl, by decide +kernel, by decide +kernel⟩, rfl, by decide +kernel, fun _ _ _ _ _ _ us hl => match us, hl with | [_, _], _ => rfl⟩
theorem s_is_table_value : DfS d_is_table_value (s "is_table_value") (s "is_table_value") [s "value"] := ⟨⟨rfl, rfl, rfl, by decide +kernel, rfl, by decide +kernel, by decide +kernel⟩, rfl, by decide +kernel, fun _ _ _ _ _ _ us hl => match us, hl with | [_], _ => rfl⟩
theorem s_is_zone_value : DfS d_is_zone_value (s "is_zone_value") (s "is_zone_value") [s "value"] := ⟨⟨rfl, rfl, rfl, by decide +kernel, rfl, by decide +kernel, by decide +kernel⟩, rfl, by decide +kernel, fun _ _ _ _ _ _ us hl => match us, hl with | [_], _ => rfl⟩
theorem s_require_table : DfS d_require_table (s "require_table") (s "require_table") [s "value"] := ⟨⟨rfl, rfl, rfl, by decide +kernel, rfl, by decide +kernel, by decide +kernel⟩, rfl, by decide +kernel, fun _ _ _ _ _ _ us hl => match us, hl with | [_], _ => rfl⟩
theorem s_require_zone : DfS d_require_zone (s "require_zone") (s "require_zone") [s "value"] := ⟨⟨rfl, rfl, rfl, by decide +kernel, rfl, by decide +kernel, by decide +kernel⟩, rfl, by decide +kernel, fun _ _ _ _ _ _ us hl => match us, hl with | [_], _ => rfl⟩
theorem s_require_two : DfS d_require_two (s "require_two") (s "require_two") [s "one", s "other"] := ⟨⟨rfl, rfl, rfl, by decide +kernel, rfl, by decide +kernel, by decide +kernel⟩, rfl, by decide +kernel, fun _ _ _ _ _ _ us hl => match us, hl with | [_, _], _ => rfl⟩
theorem s_add_bounds_tables : DfS d_add_bounds_tables (s "add_bounds") (s "add_bounds") [s "one", s "other"] := ⟨⟨rfl, rfl, rfl, by decide +kernel, rfl, by decide +kernel, by decide +kernel⟩, rfl, by decide +kernel, fun _ _ _ _ _ _ us hl => match us, hl with | [_, _], _ => rfl⟩
theorem s_zone_of : DfS d_zone_of (s "zone_of") (s "zone_of") [s "table"] := ⟨⟨rfl, rfl, rfl, by decide +kernel, rfl, by decide +kernel, by decide +kernel⟩, rfl, by decide +kernel, fun _ _ _ _ _ _ us hl => match us, hl with | [_], _ => rfl⟩
theorem s_ring_in : DfS d_ring_in (s "ring_in") (s "ring_in") [s "table"] := ⟨⟨rfl, rfl, rfl, by decide +kernel, rfl, by decide +kernel, by decide +kernel⟩, rfl, by decide +kernel, fun _ _ _ _ _ _ us hl => match us, hl with | [_], _ => rfl⟩
theorem s_is_ring : DfS d_is_ring (s "is_ring") (s "is_ring") [s "table", s "value"] := ⟨⟨rfl, rfl, rfl, by decide +kernel, rfl, by decide +kernel, by decide +kernel⟩, rfl, by decide +kernel, fun _ _ _ _ _ _ us hl => match us, hl with | [_, _], _ => rfl⟩
theorem s_has_point : DfS d_has_point (s "has_point") (s "has_point") [s "zone", s "numbers"] := ⟨⟨rfl, rfl, rfl, by decide +kernel, rfl, by decide +kernel, by decide +kernel⟩, rfl, by decide +kernel, fun _ _ _ _ _ _ us hl => match us, hl with | [_, _], _ => rfl⟩
theorem s_point_in : DfS d_point_in (s "point_in") (s "point_in") [s "zone"] := ⟨⟨rfl, rfl, rfl, by decide +kernel, rfl, by decide +kernel, by decide +kernel⟩, rfl, by decide +kernel, fun _ _ _ _ _ _ us hl => match us, hl with | [_], _ => rfl⟩
theorem s_is_zone_in : DfS d_is_zone_in (s "is_zone_in") (s "is_zone_in") [s "one", s "other"] := ⟨⟨rfl, rfl, rfl, by decide +kernel, rfl, by decide +kernel, by decide +kernel⟩, rfl, by decide +kernel, fun _ _ _ _ _ _ us hl => match us, hl with | [_, _], _ => rfl⟩
theorem s_common : DfS d_common (s "common") (s "common") [s "one", s "other"] := ⟨⟨rfl, rfl, rfl, by decide +kernel, rfl, by decide +kernel, by decide +kernel⟩, rfl, by decide +kernel, fun _ _ _ _ _ _ us hl => match us, hl with | [_, _], _ => rfl⟩
theorem s_later : DfS d_later (s "later") (s "later") [s "zone"] := ⟨⟨rfl, rfl, rfl, by decide +kernel, rfl, by decide +kernel, by decide +kernel⟩, rfl, by decide +kernel, fun _ _ _ _ _ _ us hl => match us, hl with | [_], _ => rfl⟩
theorem s_put_to_zero : DfS d_put_to_zero (s "put_to_zero") (s "put_to_zero") [s "zone", s "lot"] := ⟨⟨rfl, rfl, rfl, by decide +kernel, rfl, by decide +kernel, by decide +kernel⟩, rfl, by decide +kernel, fun _ _ _ _ _ _ us hl => match us, hl with | [_, _], _ => rfl⟩
theorem s_kept_by : DfS d_kept_by (s "kept_by") (s "kept_by") [s "zone", s "stretches"] := ⟨⟨rfl, rfl, rfl, by decide +kernel, rfl, by decide +kernel, by decide +kernel⟩, rfl, by decide +kernel, fun _ _ _ _ _ _ us hl => match us, hl with | [_, _], _ => rfl⟩
theorem s_zero_zone : DfS d_zero_zone (s "zero_zone") (s "zero_zone") [s "n"] := ⟨⟨rfl, rfl, rfl, by decide +kernel, rfl, by decide +kernel, by decide +kernel⟩, rfl, by decide +kernel, fun _ _ _ _ _ _ us hl => match us, hl with | [_], _ => rfl⟩
theorem s_whole_zone : DfS d_whole_zone (s "whole_zone") (s "whole_zone") [s "n"] := ⟨⟨rfl, rfl, rfl, by decide +kernel, rfl, by decide +kernel, by decide +kernel⟩, rfl, by decide +kernel, fun _ _ _ _ _ _ us hl => match us, hl with | [_], _ => rfl⟩
theorem s__law_dice : DfS d__law_dice (s "_law_dice") (s "_law_dice") [s "script", s "spot"] := ⟨⟨rfl, rfl, rfl, by decide +kernel, rfl, by decide +kernel, by decide +kernel⟩, rfl, by decide +kernel, fun _ _ _ _ _ _ us hl => match us, hl with | [_, _], _ => rfl⟩
theorem s__law_roll : DfS d__law_roll (s "_law_roll") (s "_law_roll") [s "dice", s "total"] := ⟨⟨rfl, rfl, rfl, by decide +kernel, rfl, by decide +kernel, by decide +kernel⟩, rfl, by decide +kernel, fun _ _ _ _ _ _ us hl => match us, hl with | [_, _], _ => rfl⟩
theorem s__law_pick : DfS d__law_pick (s "_law_pick") (s "_law_pick") [s "dice", s "items"] := ⟨⟨rfl, rfl, rfl, by decide +kernel, rfl, by decide +kernel, by decide +kernel⟩, rfl, by decide +kernel, fun _ _ _ _ _ _ us hl => match us, hl with | [_, _], _ => rfl⟩
theorem s__law_met : DfS d__law_met (s "_law_met") (s "_law_met") [s "call"] := ⟨⟨rfl, rfl, rfl, by decide +kernel, rfl, by decide +kernel, by decide +kernel⟩, rfl, by decide +kernel, fun _ _ _ _ _ _ us hl => match us, hl with | [_], _ => rfl⟩
theorem s__law_right : DfS d__law_right (s "_law_right") (s "_law_right") [s "dice"] := ⟨⟨rfl, rfl, rfl, by decide +kernel, rfl, by decide +kernel, by decide +kernel⟩, rfl, by decide +kernel, fun _ _ _ _ _ _ us hl => match us, hl with | [_], _ => rfl⟩
theorem s_law : DfS d_law (s "law") (s "law") [s "script"] := ⟨⟨rfl, rfl, rfl, by decide +kernel, rfl, by decide +kernel, by decide +kernel⟩, rfl, by decide +kernel, fun _ _ _ _ _ _ us hl => match us, hl with | [_], _ => rfl⟩
theorem all_in : (cM.defs.all fun f => (cT.lookup f).isSome) = true := by decide +kernel
theorem nm_in : nmOk cM = true := by decide +kernel
end K23

set_option Elab.async false
set_option linter.all false
set_option maxRecDepth 100000
namespace K23
open PySem L2 Ev
theorem l__law_dice_cell : slotOf d__law_dice.N (Str.ofString "cell") = some 2 := by kernel_rfl
theorem v__law_dice_cell (b) : Cn.vis (gOf d__law_dice b) (Str.ofString "cell") = true := by kernel_rfl
theorem o__law_dice_cell (b) : Cn.loc (gOf d__law_dice b) (Str.ofString "cell") = true := by kernel_rfl
theorem l__law_dice_great : slotOf d__law_dice.N (Str.ofString "great") = some 3 := by kernel_rfl
theorem v__law_dice_great (b) : Cn.vis (gOf d__law_dice b) (Str.ofString "great") = true := by kernel_rfl
theorem o__law_dice_great (b) : Cn.loc (gOf d__law_dice b) (Str.ofString "great") = true := by kernel_rfl
theorem l__law_dice_spot : slotOf d__law_dice.N (Str.ofString "spot") = some 1 := by kernel_rfl
theorem v__law_dice_spot (b) : Cn.vis (gOf d__law_dice b) (Str.ofString "spot") = true := by kernel_rfl
theorem o__law_dice_spot (b) : Cn.loc (gOf d__law_dice b) (Str.ofString "spot") = true := by kernel_rfl
theorem l__law_dice_int : slotOf d__law_dice.N (Str.ofString "int") = none := by kernel_rfl
theorem w__law_dice_int (b) : Cn.glob (gOf d__law_dice b) (Str.ofString "int") = true := by kernel_rfl
theorem l__law_dice_max : slotOf d__law_dice.N (Str.ofString "max") = none := by kernel_rfl
theorem w__law_dice_max (b) : Cn.glob (gOf d__law_dice b) (Str.ofString "max") = true := by kernel_rfl
theorem l__law_dice_len : slotOf d__law_dice.N (Str.ofString "len") = none := by kernel_rfl
theorem w__law_dice_len (b) : Cn.glob (gOf d__law_dice b) (Str.ofString "len") = true := by kernel_rfl
theorem l__law_dice_script : slotOf d__law_dice.N (Str.ofString "script") = some 0 := by kernel_rfl
theorem v__law_dice_script (b) : Cn.vis (gOf d__law_dice b) (Str.ofString "script") = true := by kernel_rfl
theorem o__law_dice_script (b) : Cn.loc (gOf d__law_dice b) (Str.ofString "script") = true := by kernel_rfl
theorem l__law_dice_abs : slotOf d__law_dice.N (Str.ofString "abs") = none := by kernel_rfl
theorem w__law_dice_abs (b) : Cn.glob (gOf d__law_dice b) (Str.ofString "abs") = true := by kernel_rfl
theorem l__law_roll_one : slotOf d__law_roll.N (Str.ofString "one") = some 3 := by kernel_rfl
theorem v__law_roll_one (b) : Cn.vis (gOf d__law_roll b) (Str.ofString "one") = true := by kernel_rfl
theorem o__law_roll_one (b) : Cn.loc (gOf d__law_roll b) (Str.ofString "one") = true := by kernel_rfl
theorem l__law_roll_two : slotOf d__law_roll.N (Str.ofString "two") = some 4 := by kernel_rfl
theorem v__law_roll_two (b) : Cn.vis (gOf d__law_roll b) (Str.ofString "two") = true := by kernel_rfl
theorem o__law_roll_two (b) : Cn.loc (gOf d__law_roll b) (Str.ofString "two") = true := by kernel_rfl
theorem l__law_roll_found : slotOf d__law_roll.N (Str.ofString "found") = some 2 := by kernel_rfl
theorem v__law_roll_found (b) : Cn.vis (gOf d__law_roll b) (Str.ofString "found") = true := by kernel_rfl
theorem o__law_roll_found (b) : Cn.loc (gOf d__law_roll b) (Str.ofString "found") = true := by kernel_rfl
theorem l__law_roll_dice : slotOf d__law_roll.N (Str.ofString "dice") = some 0 := by kernel_rfl
theorem v__law_roll_dice (b) : Cn.vis (gOf d__law_roll b) (Str.ofString "dice") = true := by kernel_rfl
theorem o__law_roll_dice (b) : Cn.loc (gOf d__law_roll b) (Str.ofString "dice") = true := by kernel_rfl
theorem l__law_roll_total : slotOf d__law_roll.N (Str.ofString "total") = some 1 := by kernel_rfl
theorem v__law_roll_total (b) : Cn.vis (gOf d__law_roll b) (Str.ofString "total") = true := by kernel_rfl
theorem o__law_roll_total (b) : Cn.loc (gOf d__law_roll b) (Str.ofString "total") = true := by kernel_rfl
theorem l__law_roll_int : slotOf d__law_roll.N (Str.ofString "int") = none := by kernel_rfl
theorem w__law_roll_int (b) : Cn.glob (gOf d__law_roll b) (Str.ofString "int") = true := by kernel_rfl
theorem l__law_pick_items : slotOf d__law_pick.N (Str.ofString "items") = some 1 := by kernel_rfl
theorem v__law_pick_items (b) : Cn.vis (gOf d__law_pick b) (Str.ofString "items") = true := by kernel_rfl
theorem o__law_pick_items (b) : Cn.loc (gOf d__law_pick b) (Str.ofString "items") = true := by kernel_rfl
theorem l__law_pick__law_roll : slotOf d__law_pick.N (Str.ofString "_law_roll") = none := by kernel_rfl
theorem w__law_pick__law_roll (b) : Cn.glob (gOf d__law_pick b) (Str.ofString "_law_roll") = true := by kernel_rfl
theorem l__law_pick_dice : slotOf d__law_pick.N (Str.ofString "dice") = some 0 := by kernel_rfl
theorem v__law_pick_dice (b) : Cn.vis (gOf d__law_pick b) (Str.ofString "dice") = true := by kernel_rfl
theorem o__law_pick_dice (b) : Cn.loc (gOf d__law_pick b) (Str.ofString "dice") = true := by kernel_rfl
theorem l__law_pick_len : slotOf d__law_pick.N (Str.ofString "len") = none := by kernel_rfl
theorem w__law_pick_len (b) : Cn.glob (gOf d__law_pick b) (Str.ofString "len") = true := by kernel_rfl
theorem l_law_spot : slotOf d_law.N (Str.ofString "spot") = some 1 := by kernel_rfl
theorem v_law_spot (b) : Cn.vis (gOf d_law b) (Str.ofString "spot") = true := by kernel_rfl
theorem o_law_spot (b) : Cn.loc (gOf d_law b) (Str.ofString "spot") = true := by kernel_rfl
theorem l_law_six : slotOf d_law.N (Str.ofString "six") = some 4 := by kernel_rfl
theorem v_law_six (b) : Cn.vis (gOf d_law b) (Str.ofString "six") = true := by kernel_rfl
theorem o_law_six (b) : Cn.loc (gOf d_law b) (Str.ofString "six") = true := by kernel_rfl
theorem l_law_range : slotOf d_law.N (Str.ofString "range") = none := by kernel_rfl
theorem w_law_range (b) : Cn.glob (gOf d_law b) (Str.ofString "range") = true := by kernel_rfl
theorem l_law_dice : slotOf d_law.N (Str.ofString "dice") = some 2 := by kernel_rfl
theorem v_law_dice (b) : Cn.vis (gOf d_law b) (Str.ofString "dice") = true := by kernel_rfl
theorem o_law_dice (b) : Cn.loc (gOf d_law b) (Str.ofString "dice") = true := by kernel_rfl
theorem l_law_turn : slotOf d_law.N (Str.ofString "turn") = some 3 := by kernel_rfl
theorem v_law_turn (b) : Cn.vis (gOf d_law b) (Str.ofString "turn") = true := by kernel_rfl
theorem o_law_turn (b) : Cn.loc (gOf d_law b) (Str.ofString "turn") = true := by kernel_rfl
theorem l_law_zero_zone : slotOf d_law.N (Str.ofString "zero_zone") = none := by kernel_rfl
theorem w_law_zero_zone (b) : Cn.glob (gOf d_law b) (Str.ofString "zero_zone") = true := by kernel_rfl
theorem l_law_max : slotOf d_law.N (Str.ofString "max") = none := by kernel_rfl
theorem w_law_max (b) : Cn.glob (gOf d_law b) (Str.ofString "max") = true := by kernel_rfl
theorem l_law__law_dice : slotOf d_law.N (Str.ofString "_law_dice") = none := by kernel_rfl
theorem w_law__law_dice (b) : Cn.glob (gOf d_law b) (Str.ofString "_law_dice") = true := by kernel_rfl
theorem l_law_script : slotOf d_law.N (Str.ofString "script") = some 0 := by kernel_rfl
theorem v_law_script (b) : Cn.vis (gOf d_law b) (Str.ofString "script") = true := by kernel_rfl
theorem o_law_script (b) : Cn.loc (gOf d_law b) (Str.ofString "script") = true := by kernel_rfl
theorem l_law_min : slotOf d_law.N (Str.ofString "min") = none := by kernel_rfl
theorem w_law_min (b) : Cn.glob (gOf d_law b) (Str.ofString "min") = true := by kernel_rfl
theorem l_law_len : slotOf d_law.N (Str.ofString "len") = none := by kernel_rfl
theorem w_law_len (b) : Cn.glob (gOf d_law b) (Str.ofString "len") = true := by kernel_rfl
theorem l_law_kept_by : slotOf d_law.N (Str.ofString "kept_by") = none := by kernel_rfl
theorem w_law_kept_by (b) : Cn.glob (gOf d_law b) (Str.ofString "kept_by") = true := by kernel_rfl
theorem l_law__law_right : slotOf d_law.N (Str.ofString "_law_right") = none := by kernel_rfl
theorem w_law__law_right (b) : Cn.glob (gOf d_law b) (Str.ofString "_law_right") = true := by kernel_rfl
theorem en__law_dice (a0 a1 : D) : en0 d__law_dice [a0, a1] = [some a0, some a1, none, none] := by kernel_rfl
theorem en__law_roll (a0 a1 : D) : en0 d__law_roll [a0, a1] = [some a0, some a1, none, none, none] := by kernel_rfl
theorem en__law_pick (a0 a1 : D) : en0 d__law_pick [a0, a1] = [some a0, some a1] := by kernel_rfl
theorem en_law (a0 : D) : en0 d_law [a0] = [some a0, none, none, none, none] := by kernel_rfl
theorem k__law_dice : cM.consts.lookup (Str.ofString "_law_dice") = none := by kernel_rfl
theorem g__law_dice : cM.defs.contains (Str.ofString "_law_dice") = true := by kernel_rfl
theorem r__law_dice : ((Str.ofString "_law_dice") == (Str.ofString "range")) = false := by kernel_rfl
theorem e__law_dice : ((Str.ofString "_law_dice") == (Str.ofString "enumerate")) = false := by kernel_rfl
theorem k__law_right : cM.consts.lookup (Str.ofString "_law_right") = none := by kernel_rfl
theorem g__law_right : cM.defs.contains (Str.ofString "_law_right") = true := by kernel_rfl
theorem r__law_right : ((Str.ofString "_law_right") == (Str.ofString "range")) = false := by kernel_rfl
theorem e__law_right : ((Str.ofString "_law_right") == (Str.ofString "enumerate")) = false := by kernel_rfl
theorem k__law_roll : cM.consts.lookup (Str.ofString "_law_roll") = none := by kernel_rfl
theorem g__law_roll : cM.defs.contains (Str.ofString "_law_roll") = true := by kernel_rfl
theorem r__law_roll : ((Str.ofString "_law_roll") == (Str.ofString "range")) = false := by kernel_rfl
theorem e__law_roll : ((Str.ofString "_law_roll") == (Str.ofString "enumerate")) = false := by kernel_rfl
theorem k_abs : cM.consts.lookup (Str.ofString "abs") = none := by kernel_rfl
theorem g_abs : cM.defs.contains (Str.ofString "abs") = false := by kernel_rfl
theorem f_abs : cM.free.contains (Str.ofString "abs") = true := by kernel_rfl
theorem b_abs : bltOf (Str.ofString "abs") = some .abs := by kernel_rfl
theorem r_abs : ((Str.ofString "abs") == (Str.ofString "range")) = false := by kernel_rfl
theorem e_abs : ((Str.ofString "abs") == (Str.ofString "enumerate")) = false := by kernel_rfl
theorem k_int : cM.consts.lookup (Str.ofString "int") = none := by kernel_rfl
theorem g_int : cM.defs.contains (Str.ofString "int") = false := by kernel_rfl
theorem f_int : cM.free.contains (Str.ofString "int") = true := by kernel_rfl
theorem b_int : bltOf (Str.ofString "int") = some .int := by kernel_rfl
theorem y_int : tyName (Str.ofString "int") = some "int" := by kernel_rfl
theorem r_int : ((Str.ofString "int") == (Str.ofString "range")) = false := by kernel_rfl
theorem e_int : ((Str.ofString "int") == (Str.ofString "enumerate")) = false := by kernel_rfl
theorem k_kept_by : cM.consts.lookup (Str.ofString "kept_by") = none := by kernel_rfl
theorem g_kept_by : cM.defs.contains (Str.ofString "kept_by") = true := by kernel_rfl
theorem r_kept_by : ((Str.ofString "kept_by") == (Str.ofString "range")) = false := by kernel_rfl
theorem e_kept_by : ((Str.ofString "kept_by") == (Str.ofString "enumerate")) = false := by kernel_rfl
theorem k_len : cM.consts.lookup (Str.ofString "len") = none := by kernel_rfl
theorem g_len : cM.defs.contains (Str.ofString "len") = false := by kernel_rfl
theorem f_len : cM.free.contains (Str.ofString "len") = true := by kernel_rfl
theorem b_len : bltOf (Str.ofString "len") = some .len := by kernel_rfl
theorem r_len : ((Str.ofString "len") == (Str.ofString "range")) = false := by kernel_rfl
theorem e_len : ((Str.ofString "len") == (Str.ofString "enumerate")) = false := by kernel_rfl
theorem k_max : cM.consts.lookup (Str.ofString "max") = none := by kernel_rfl
theorem g_max : cM.defs.contains (Str.ofString "max") = false := by kernel_rfl
theorem f_max : cM.free.contains (Str.ofString "max") = true := by kernel_rfl
theorem b_max : bltOf (Str.ofString "max") = some .max := by kernel_rfl
theorem r_max : ((Str.ofString "max") == (Str.ofString "range")) = false := by kernel_rfl
theorem e_max : ((Str.ofString "max") == (Str.ofString "enumerate")) = false := by kernel_rfl
theorem k_min : cM.consts.lookup (Str.ofString "min") = none := by kernel_rfl
theorem g_min : cM.defs.contains (Str.ofString "min") = false := by kernel_rfl
theorem f_min : cM.free.contains (Str.ofString "min") = true := by kernel_rfl
theorem b_min : bltOf (Str.ofString "min") = some .min := by kernel_rfl
theorem r_min : ((Str.ofString "min") == (Str.ofString "range")) = false := by kernel_rfl
theorem e_min : ((Str.ofString "min") == (Str.ofString "enumerate")) = false := by kernel_rfl
theorem k_range : cM.consts.lookup (Str.ofString "range") = none := by kernel_rfl
theorem g_range : cM.defs.contains (Str.ofString "range") = false := by kernel_rfl
theorem f_range : cM.free.contains (Str.ofString "range") = true := by kernel_rfl
theorem r_range : ((Str.ofString "range") == (Str.ofString "range")) = true := by kernel_rfl
theorem e_range : ((Str.ofString "range") == (Str.ofString "enumerate")) = false := by kernel_rfl
theorem k_zero_zone : cM.consts.lookup (Str.ofString "zero_zone") = none := by kernel_rfl
theorem g_zero_zone : cM.defs.contains (Str.ofString "zero_zone") = true := by kernel_rfl
theorem r_zero_zone : ((Str.ofString "zero_zone") == (Str.ofString "range")) = false := by kernel_rfl
theorem e_zero_zone : ((Str.ofString "zero_zone") == (Str.ofString "enumerate")) = false := by kernel_rfl
theorem a__law_dice (k b) : (levC cM cT k).at (gOf d__law_dice b) = lev cM cT k := at_gOf rfl
theorem a__law_roll (k b) : (levC cM cT k).at (gOf d__law_roll b) = lev cM cT k := at_gOf rfl
theorem a__law_pick (k b) : (levC cM cT k).at (gOf d__law_pick b) = lev cM cT k := at_gOf rfl
theorem a_law (k b) : (levC cM cT k).at (gOf d_law b) = lev cM cT k := at_gOf rfl
end K23

set_option Elab.async false
set_option linter.all false
set_option maxRecDepth 100000
set_option maxHeartbeats 4000000
namespace K23
open PySem L2 Ev
local macro_rules | `(tactic| walk_at "go _law_dice") => `(tactic| (refine wp_lev (f := d__law_dice) (by rfl) rfl (by rfl) ?_; rw [en__law_dice]; have hb : defBody d__law_dice.st = defBody d__law_dice.st := rfl; (conv at hb => (rhs; whnf)); rw [hb]; clear hb))
local macro_rules | `(tactic| walk_at "ev _law_dice") => `(tactic| simp (dsimp := false) (decide := true) only [↓bin_eq, orT_s, orT_n, ↓to_bnd, wp_ok, wp_noErr, noErr_ok, bnd_assoc, bnd_ok, bnd_st, ↓to_lcF, ↓to_forF, ↓to_whileF, b_addT, b_addLo, b_addLf, pl_nil, pl_cons, plO_s, plO_n, c_hanc, evSs_seq, evSs_end, seq_nx, seq_rt, seq_bk, seq_ct, seq_bnd, bnd_seq, seq_for, seq_while, fin_nx, fin_rt, asgNs_nil, asgNs_cons, asgEa_nil, asgEa_nam, asgEa_sub, isOL_own, pp_0, List.cons_append, take_hn, ow_dfro, ow_dext, takeF_v, takeF_h, free_nil, free_cons, wipe_nil, wipe_cons, back_eq, patch_nil, patch_cons, li_3, li_4, li_5, li_6, li_7, frz_fro, frz_ext, frz_own, frz_non, frz_bl, frz_str, evS, ownOf, List.filterMap_cons, List.filterMap_nil, List.map_cons, List.map_nil, Option.map_some, Option.map_none, asgT, asgI, pp_1, List.nil_append, lenOk2, frzL_nil, frzL_cons, frz_tup, Int.mul_one, plainIx, intE, itE_t, itE_l, item_0, item_1, item_2, li_0, li_1, li_2, asgXs, takes_nil, takes_cons, swap, namesOn, headLine, Expr.pos, ed2, ed3, foldedForSure, constantsAlone, List.all_cons, List.all_nil, List.length_cons, List.length_nil, Nat.reduceAdd, Nat.reduceBEq, Nat.reduceBNe, Bool.or_true, Bool.or_false, Bool.true_or, Bool.false_or, beq_self_eq_true, bne_self_eq_false, List.set_cons_zero, List.set_cons_succ, evT, evTs, evE, evO, evA, evB, evP, evF, evI, evW, ofO_s, c_val, c_han, g_0, g_s, sole_v, sole_h, take_v, ow_non, ow_bl, ow_int, ow_str, ow_tup, ow_own, ow_fro, ow_ext, ow_ty, ow_fn, ow_dic, b_add, b_sub, b_mod, b_div, b_mul, n_non, n_bl, n_int, n_str, n_tup, n_lst, n_dic, m_is, m_isnot, m_lt, m_le, m_gt, m_ge, m_eq, m_ne, q_int, q_non1, q_non2, q_bl, t_bl, t_int, t_non, t_tup, t_lst, s_and, s_or, okC_lt, okC_le, okC_gt, okC_ge, okC_eq, okC_ne, okC_is, okC_isn, back_ok, at_sub, bnd_er, gOf_N, gOf_bor, sub_N, name_eq, asgN_eq, call_eq, lend_nil, lend_val, lend_han, gb_nil, gb_none, gb_some, noStar, Bool.false_eq_true, if_false, if_true, Bool.not_true, Bool.not_false, outsOf, decide_true, decide_false, Bool.true_and, Bool.and_true, Bool.false_and, Bool.and_false, reduceCtorEq, Option.map_some, frz, frz_int, contents_nil, contents_cons, bl_int, bl_bl, bl_lenT, bl_lenL, bl_abs, bl_max, bl_min, bl_listT, bl_listL, bl_tupT, bl_tupL, bl_any, bl_all, is_int, is_ty, is_non_int, is_non_bool, is_non_tuple, is_non_list, is_non_str, is_non_dict, is_bl_int, is_bl_bool, is_bl_tuple, is_bl_list, is_bl_str, is_bl_dict, is_int_bool, is_int_tuple, is_int_list, is_int_str, is_int_dict, is_str_int, is_str_bool, is_str_tuple, is_str_list, is_str_str, is_str_dict, is_tup_int, is_tup_bool, is_tup_tuple, is_tup_list, is_tup_str, is_tup_dict, is_lst_int, is_lst_bool, is_lst_tuple, is_lst_list, is_lst_str, is_lst_dict, is_dic_int, is_dic_bool, is_dic_tuple, is_dic_list, is_dic_str, is_dic_dict, l__law_dice_cell, v__law_dice_cell, o__law_dice_cell, l__law_dice_great, v__law_dice_great, o__law_dice_great, l__law_dice_spot, v__law_dice_spot, o__law_dice_spot, l__law_dice_int, w__law_dice_int, l__law_dice_max, w__law_dice_max, l__law_dice_len, w__law_dice_len, l__law_dice_script, v__law_dice_script, o__law_dice_script, l__law_dice_abs, w__law_dice_abs, a__law_dice, k_abs, g_abs, f_abs, b_abs, r_abs, e_abs, k_int, g_int, f_int, b_int, y_int, r_int, e_int, k_len, g_len, f_len, b_len, r_len, e_len, k_max, g_max, f_max, b_max, r_max, e_max, *])
local macro_rules | `(tactic| walk_at "go _law_roll") => `(tactic| (refine wp_lev (f := d__law_roll) (by rfl) rfl (by rfl) ?_; rw [en__law_roll]; have hb : defBody d__law_roll.st = defBody d__law_roll.st := rfl; (conv at hb => (rhs; whnf)); rw [hb]; clear hb))
local macro_rules | `(tactic| walk_at "ev _law_roll") => `(tactic| simp (dsimp := false) (decide := true) only [↓bin_eq, orT_s, orT_n, ↓to_bnd, wp_ok, wp_noErr, noErr_ok, bnd_assoc, bnd_ok, bnd_st, ↓to_lcF, ↓to_forF, ↓to_whileF, b_addT, b_addLo, b_addLf, pl_nil, pl_cons, plO_s, plO_n, c_hanc, evSs_seq, evSs_end, seq_nx, seq_rt, seq_bk, seq_ct, seq_bnd, bnd_seq, seq_for, seq_while, fin_nx, fin_rt, asgNs_nil, asgNs_cons, asgEa_nil, asgEa_nam, asgEa_sub, isOL_own, pp_0, List.cons_append, take_hn, ow_dfro, ow_dext, takeF_v, takeF_h, free_nil, free_cons, wipe_nil, wipe_cons, back_eq, patch_nil, patch_cons, li_3, li_4, li_5, li_6, li_7, frz_fro, frz_ext, frz_own, frz_non, frz_bl, frz_str, evS, ownOf, List.filterMap_cons, List.filterMap_nil, List.map_cons, List.map_nil, Option.map_some, Option.map_none, asgT, asgI, pp_1, List.nil_append, lenOk2, frzL_nil, frzL_cons, frz_tup, Int.mul_one, plainIx, intE, itE_t, itE_l, item_0, item_1, item_2, li_0, li_1, li_2, asgXs, takes_nil, takes_cons, swap, namesOn, headLine, Expr.pos, ed2, ed3, foldedForSure, constantsAlone, List.all_cons, List.all_nil, List.length_cons, List.length_nil, Nat.reduceAdd, Nat.reduceBEq, Nat.reduceBNe, Bool.or_true, Bool.or_false, Bool.true_or, Bool.false_or, beq_self_eq_true, bne_self_eq_false, List.set_cons_zero, List.set_cons_succ, evT, evTs, evE, evO, evA, evB, evP, evF, evI, evW, ofO_s, c_val, c_han, g_0, g_s, sole_v, sole_h, take_v, ow_non, ow_bl, ow_int, ow_str, ow_tup, ow_own, ow_fro, ow_ext, ow_ty, ow_fn, ow_dic, b_add, b_sub, b_mod, b_div, b_mul, n_non, n_bl, n_int, n_str, n_tup, n_lst, n_dic, m_is, m_isnot, m_lt, m_le, m_gt, m_ge, m_eq, m_ne, q_int, q_non1, q_non2, q_bl, t_bl, t_int, t_non, t_tup, t_lst, s_and, s_or, okC_lt, okC_le, okC_gt, okC_ge, okC_eq, okC_ne, okC_is, okC_isn, back_ok, at_sub, bnd_er, gOf_N, gOf_bor, sub_N, name_eq, asgN_eq, call_eq, lend_nil, lend_val, lend_han, gb_nil, gb_none, gb_some, noStar, Bool.false_eq_true, if_false, if_true, Bool.not_true, Bool.not_false, outsOf, decide_true, decide_false, Bool.true_and, Bool.and_true, Bool.false_and, Bool.and_false, reduceCtorEq, Option.map_some, frz, frz_int, contents_nil, contents_cons, bl_int, bl_bl, bl_lenT, bl_lenL, bl_abs, bl_max, bl_min, bl_listT, bl_listL, bl_tupT, bl_tupL, bl_any, bl_all, is_int, is_ty, is_non_int, is_non_bool, is_non_tuple, is_non_list, is_non_str, is_non_dict, is_bl_int, is_bl_bool, is_bl_tuple, is_bl_list, is_bl_str, is_bl_dict, is_int_bool, is_int_tuple, is_int_list, is_int_str, is_int_dict, is_str_int, is_str_bool, is_str_tuple, is_str_list, is_str_str, is_str_dict, is_tup_int, is_tup_bool, is_tup_tuple, is_tup_list, is_tup_str, is_tup_dict, is_lst_int, is_lst_bool, is_lst_tuple, is_lst_list, is_lst_str, is_lst_dict, is_dic_int, is_dic_bool, is_dic_tuple, is_dic_list, is_dic_str, is_dic_dict, l__law_roll_one, v__law_roll_one, o__law_roll_one, l__law_roll_two, v__law_roll_two, o__law_roll_two, l__law_roll_found, v__law_roll_found, o__law_roll_found, l__law_roll_dice, v__law_roll_dice, o__law_roll_dice, l__law_roll_total, v__law_roll_total, o__law_roll_total, l__law_roll_int, w__law_roll_int, a__law_roll, k_int, g_int, f_int, b_int, y_int, r_int, e_int, *])
local macro_rules | `(tactic| walk_at "go _law_pick") => `(tactic| (refine wp_lev (f := d__law_pick) (by rfl) rfl (by rfl) ?_; rw [en__law_pick]; have hb : defBody d__law_pick.st = defBody d__law_pick.st := rfl; (conv at hb => (rhs; whnf)); rw [hb]; clear hb))
local macro_rules | `(tactic| walk_at "ev _law_pick") => `(tactic| simp (dsimp := false) (decide := true) only [↓bin_eq, orT_s, orT_n, ↓to_bnd, wp_ok, wp_noErr, noErr_ok, bnd_assoc, bnd_ok, bnd_st, ↓to_lcF, ↓to_forF, ↓to_whileF, b_addT, b_addLo, b_addLf, pl_nil, pl_cons, plO_s, plO_n, c_hanc, evSs_seq, evSs_end, seq_nx, seq_rt, seq_bk, seq_ct, seq_bnd, bnd_seq, seq_for, seq_while, fin_nx, fin_rt, asgNs_nil, asgNs_cons, asgEa_nil, asgEa_nam, asgEa_sub, isOL_own, pp_0, List.cons_append, take_hn, ow_dfro, ow_dext, takeF_v, takeF_h, free_nil, free_cons, wipe_nil, wipe_cons, back_eq, patch_nil, patch_cons, li_3, li_4, li_5, li_6, li_7, frz_fro, frz_ext, frz_own, frz_non, frz_bl, frz_str, evS, ownOf, List.filterMap_cons, List.filterMap_nil, List.map_cons, List.map_nil, Option.map_some, Option.map_none, asgT, asgI, pp_1, List.nil_append, lenOk2, frzL_nil, frzL_cons, frz_tup, Int.mul_one, plainIx, intE, itE_t, itE_l, item_0, item_1, item_2, li_0, li_1, li_2, asgXs, takes_nil, takes_cons, swap, namesOn, headLine, Expr.pos, ed2, ed3, foldedForSure, constantsAlone, List.all_cons, List.all_nil, List.length_cons, List.length_nil, Nat.reduceAdd, Nat.reduceBEq, Nat.reduceBNe, Bool.or_true, Bool.or_false, Bool.true_or, Bool.false_or, beq_self_eq_true, bne_self_eq_false, List.set_cons_zero, List.set_cons_succ, evT, evTs, evE, evO, evA, evB, evP, evF, evI, evW, ofO_s, c_val, c_han, g_0, g_s, sole_v, sole_h, take_v, ow_non, ow_bl, ow_int, ow_str, ow_tup, ow_own, ow_fro, ow_ext, ow_ty, ow_fn, ow_dic, b_add, b_sub, b_mod, b_div, b_mul, n_non, n_bl, n_int, n_str, n_tup, n_lst, n_dic, m_is, m_isnot, m_lt, m_le, m_gt, m_ge, m_eq, m_ne, q_int, q_non1, q_non2, q_bl, t_bl, t_int, t_non, t_tup, t_lst, s_and, s_or, okC_lt, okC_le, okC_gt, okC_ge, okC_eq, okC_ne, okC_is, okC_isn, back_ok, at_sub, bnd_er, gOf_N, gOf_bor, sub_N, name_eq, asgN_eq, call_eq, lend_nil, lend_val, lend_han, gb_nil, gb_none, gb_some, noStar, Bool.false_eq_true, if_false, if_true, Bool.not_true, Bool.not_false, outsOf, decide_true, decide_false, Bool.true_and, Bool.and_true, Bool.false_and, Bool.and_false, reduceCtorEq, Option.map_some, frz, frz_int, contents_nil, contents_cons, bl_int, bl_bl, bl_lenT, bl_lenL, bl_abs, bl_max, bl_min, bl_listT, bl_listL, bl_tupT, bl_tupL, bl_any, bl_all, is_int, is_ty, is_non_int, is_non_bool, is_non_tuple, is_non_list, is_non_str, is_non_dict, is_bl_int, is_bl_bool, is_bl_tuple, is_bl_list, is_bl_str, is_bl_dict, is_int_bool, is_int_tuple, is_int_list, is_int_str, is_int_dict, is_str_int, is_str_bool, is_str_tuple, is_str_list, is_str_str, is_str_dict, is_tup_int, is_tup_bool, is_tup_tuple, is_tup_list, is_tup_str, is_tup_dict, is_lst_int, is_lst_bool, is_lst_tuple, is_lst_list, is_lst_str, is_lst_dict, is_dic_int, is_dic_bool, is_dic_tuple, is_dic_list, is_dic_str, is_dic_dict, l__law_pick_items, v__law_pick_items, o__law_pick_items, l__law_pick__law_roll, w__law_pick__law_roll, l__law_pick_dice, v__law_pick_dice, o__law_pick_dice, l__law_pick_len, w__law_pick_len, a__law_pick, k__law_roll, g__law_roll, r__law_roll, e__law_roll, k_len, g_len, f_len, b_len, r_len, e_len, *])
/-! k23: draws -/
def dI (a b c : Int) : D := .lst .own [.int a, .int b, .int c]
/-- small enough to be multiplied -/
def sm (i : Int) : Prop := i.natAbs < 2 ^ 2000
theorem log_sm {n : Nat} (h : n < 2 ^ 2000) : n.log2 < 2000 := by
  by_cases h0 : n = 0
  · subst h0; decide
  · exact (Nat.log2_lt h0).mpr h
theorem mul_sm {i j : Int} (hi : sm i) (hj : sm j) : mulOk i j = true := by
  have h1 := log_sm hi
  have h2 := log_sm hj
  unfold mulOk
  rw [decide_eq_true_eq]
  have : big = 1000000 := rfl
  omega
theorem sm_nat {i : Int} (n : Nat) (h : i.natAbs ≤ n) (hn : n < 2 ^ 60) : sm i := by
  unfold sm
  have : (2 : Nat) ^ 60 ≤ 2 ^ 2000 := Nat.pow_le_pow_right (by decide) (by decide)
  omega
theorem sm1 : sm 1 := sm_nat 1 (by decide) (by decide)
theorem div_sm {c : Int} (h0 : 0 < c) (h : sm c) : divOk c = true := by
  have := log_sm h
  simp only [divOk, Bool.and_eq_true, decide_eq_true_eq]
  exact ⟨h0, by omega⟩
/-- a draw: the found number and the dice behind it -/
def rollM (a b c n : Int) : Int × Int × Int × Int := if 0 < a then (a % n, a / n, b, c) else
  let o := (b + 15485863 * (c + 1)) % 2305843009213693951
  (((o * o + 211 * (c + 1)) % 2305843009213693921 * 6700417 + o) / 65536 % n, a, b, c + 1)
theorem E_law_roll (k : Nat) (a b c n : Int) (h0 : 0 < n) (hn : sm n) (hc : sm (c + 1)) : lev cM cT (k + 2) "_law_roll" [dI a b c, .int n] = .ok (.int (rollM a b c n).1, [some (dI (rollM a b c n).2.1 (rollM a b c n).2.2.1 (rollM a b c n).2.2.2), none]) := by
  unfold dI
  apply wp_eq
  walk_at "go _law_roll"
  have hb : borOf [.lst .own [D.int a, D.int b, D.int c], D.int n] = [0] := rfl
  simp only [hb]
  clear hb
  have m1 := div_sm h0 hn
  have c2 : ([0] : List Nat).contains 2 = false := by decide
  have c3 : ([0] : List Nat).contains 3 = false := by decide
  have c4 : ([0] : List Nat).contains 4 = false := by decide
  have n2 : (2 : Nat) < 5 := by decide
  have n3 : (3 : Nat) < 5 := by decide
  have n4 : (4 : Nat) < 5 := by decide
  have p1 : (0 : Int) < 2305843009213693951 := by decide
  have p2 : (0 : Int) < 2305843009213693921 := by decide
  have d1 : divOk 65536 = true := by decide
  have m2 : mulOk 15485863 (c + 1) = true := mul_sm (sm_nat 15485863 (by decide) (by decide)) hc
  have m3 : mulOk 211 (c + 1) = true := mul_sm (sm_nat 211 (by decide) (by decide)) hc
  have so : ∀ x : Int, sm (x % 2305843009213693951) := fun x => by
    have h1 := Int.emod_nonneg x (show (2305843009213693951 : Int) ≠ 0 by decide)
    have h2 := Int.emod_lt_of_pos x p1
    have : (2 : Nat) ^ 64 ≤ 2 ^ 2000 := Nat.pow_le_pow_right (by decide) (by decide)
    unfold sm; omega
  have so2 : ∀ x : Int, sm (x % 2305843009213693921) := fun x => by
    have h1 := Int.emod_nonneg x (show (2305843009213693921 : Int) ≠ 0 by decide)
    have h2 := Int.emod_lt_of_pos x p2
    have : (2 : Nat) ^ 64 ≤ 2 ^ 2000 := Nat.pow_le_pow_right (by decide) (by decide)
    unfold sm; omega
  have m4 : ∀ x y : Int, mulOk (x % 2305843009213693951) (y % 2305843009213693951) = true := fun x y => mul_sm (so x) (so y)
  have m5 : ∀ x : Int, mulOk (x % 2305843009213693921) 6700417 = true := fun x => mul_sm (so2 x) (sm_nat 6700417 (by decide) (by decide))
  clear hn hc so so2
  walk_at "ev _law_roll"
  by_cases h : 0 < a
  · simp only [rollM, h, if_true]
    walk_at "ev _law_roll"
  · simp only [rollM, h, if_false]
    walk_at "ev _law_roll"

theorem roll_lt (a b c n : Int) (h0 : 0 < n) : 0 ≤ (rollM a b c n).1 ∧ (rollM a b c n).1 < n := by
  unfold rollM
  by_cases h : 0 < a
  · simp only [h, if_true]
    exact ⟨Int.emod_nonneg _ (by omega), Int.emod_lt_of_pos _ h0⟩
  · simp only [h, if_false]
    exact ⟨Int.emod_nonneg _ (by omega), Int.emod_lt_of_pos _ h0⟩
theorem item_int {xs : List D} {i : Int} (h0 : 0 ≤ i) (h1 : i < xs.length) : item xs i = some i.toNat := by
  have h2 := item_nat (xs := xs) (j := i.toNat) (by omega)
  rwa [Int.toNat_of_nonneg h0] at h2
theorem E_law_pick (k : Nat) (a b c : Int) (xs : List D) (d : D) (h0 : 0 < xs.length) (hl : xs.length < 1000) (hc : sm (c + 1)) (hd : xs[(rollM a b c xs.length).1.toNat]? = some d) (ho : owned d = false) :
    lev cM cT (k + 3) "_law_pick" [dI a b c, .lst .fro xs] = .ok (d, [some (dI (rollM a b c xs.length).2.1 (rollM a b c xs.length).2.2.1 (rollM a b c xs.length).2.2.2), none]) := by
  have n0 : (0 : Int) < (xs.length : Int) := by omega
  have ns : sm (xs.length : Int) := sm_nat 1000 (by omega) (by decide)
  have h1 := fun k => E_law_roll k a b c xs.length n0 ns hc
  obtain ⟨r0, r1⟩ := roll_lt a b c xs.length n0
  have hi := item_int r0 r1
  have od : ∀ a b c, owned (dI a b c) = true := fun _ _ _ => rfl
  have hb : borOf [dI a b c, .lst .fro xs] = [0] := rfl
  clear r0 r1 n0 ns hc h0 hl
  apply wp_eq
  walk_at "go _law_pick"
  simp only [hb]
  clear hb
  walk_at "ev _law_pick"
theorem pow59 : binop .Pow (.int 10) (.int 59) = some (.int (10 ^ 59)) := by kernel_rfl
theorem pow17 : binop .Pow (.int 10) (.int 17) = some (.int (10 ^ 17)) := by kernel_rfl
theorem pow5 : binop .Pow (.int (10 ^ 59)) (.int 5) = some (.int ((10 ^ 59) ^ 5)) := by kernel_rfl
theorem lenOk3 : lenOk 3 = true := by unfold lenOk; exact decide_eq_true (by decide)
/-- what the dice hold at first -/
theorem dice_of (k : Nat) (ns : List Int) (p : Nat) (hp : p < 1000) : ∃ x y, lev cM cT (k + 1) "_law_dice" [.lst .ext (ns.map .int), .int p] = .ok (dI x y 0, [none, none]) := by
  suffices hw : Wp (lev cM cT (k + 1) "_law_dice" [.lst .ext (ns.map .int), .int p]) (fun r => ∃ x y, r = (dI x y 0, [none, none])) by
    obtain ⟨r, e, x, y, rfl⟩ := hw
    exact ⟨x, y, e⟩
  have p1 : (0 : Int) < (10 ^ 59) ^ 5 := by decide +kernel
  have p2 : (0 : Int) < 2305843009213693907 := by decide
  have m1 : ∀ x : Int, mulOk (x % 2305843009213693907) 61 = true := fun x => by
    have h1 := Int.emod_nonneg x (show (2305843009213693907 : Int) ≠ 0 by decide)
    have h2 := Int.emod_lt_of_pos x p2
    have : (2 : Nat) ^ 64 ≤ 2 ^ 2000 := Nat.pow_le_pow_right (by decide) (by decide)
    exact mul_sm (by unfold sm; omega) (sm_nat 61 (by decide) (by decide))
  have m2 : mulOk 1009 (p : Int) = true := mul_sm (sm_nat 1009 (by decide) (by decide)) (sm_nat 1000 (by omega) (by decide))
  have m3 : mulOk 653 (p : Int) = true := mul_sm (sm_nat 653 (by decide) (by decide)) (sm_nat 1000 (by omega) (by decide))
  have m4 : ∀ i, i = (0 : Int) ∨ i = 1 → mulOk 19 i = true := fun i h => by rcases h with h | h <;> subst h <;> decide
  have m40 := m4 0 (.inl rfl)
  have m41 := m4 1 (.inr rfl)
  have q1 := pow59
  have q2 := pow17
  have q3 := pow5
  have l3 := lenOk3
  have c2 : ([] : List Nat).contains 2 = false := rfl
  have c3 : ([] : List Nat).contains 3 = false := rfl
  have n2 : (2 : Nat) < 4 := by decide
  have n3 : (3 : Nat) < 4 := by decide
  have hb : borOf [.lst .ext (ns.map D.int), D.int p] = [] := rfl
  have hlen : (ns.map D.int).length = ns.length := by simp
  clear m4 hp
  by_cases hlt : p < ns.length
  · have hi : item (ns.map D.int) (p : Int) = some p := item_nat (by simpa using hlt)
    have hx : (ns.map D.int)[p]? = some (.int ns[p]) := by simp [hlt]
    have hc : ((p : Int) < (ns.length : Int)) = True := by simp; omega
    generalize ns[p] = z at hx
    clear hlt
    walk_at "go _law_dice"
    simp only [hb]
    clear hb
    by_cases hz : z < 0 <;> walk_at "ev _law_dice" <;> exact ⟨_, _, rfl⟩
  · have hc : ((p : Int) < (ns.length : Int)) = False := by simp; omega
    clear hlt
    walk_at "go _law_dice"
    simp only [hb]
    clear hb
    have hp : ¬ (653 * (p : Int) + 71 < 0) := by omega
    walk_at "ev _law_dice"
    exact ⟨_, _, rfl⟩
end K23

set_option Elab.async false
set_option linter.all false
set_option maxRecDepth 100000
set_option maxHeartbeats 4000000
namespace K23
open PySem L2 Ev
local macro_rules | `(tactic| walk_at "go _law_pick") => `(tactic| (refine wp_lev (f := d__law_pick) (by rfl) rfl (by rfl) ?_; rw [en__law_pick]; have hb : defBody d__law_pick.st = defBody d__law_pick.st := rfl; (conv at hb => (rhs; whnf)); rw [hb]; clear hb))
local macro_rules | `(tactic| walk_at "ev _law_pick") => `(tactic| simp (dsimp := false) (decide := true) only [↓bin_eq, orT_s, orT_n, ↓to_bnd, wp_ok, wp_noErr, noErr_ok, bnd_assoc, bnd_ok, bnd_st, ↓to_lcF, ↓to_forF, ↓to_whileF, b_addT, b_addLo, b_addLf, pl_nil, pl_cons, plO_s, plO_n, c_hanc, evSs_seq, evSs_end, seq_nx, seq_rt, seq_bk, seq_ct, seq_bnd, bnd_seq, seq_for, seq_while, fin_nx, fin_rt, asgNs_nil, asgNs_cons, asgEa_nil, asgEa_nam, asgEa_sub, isOL_own, pp_0, List.cons_append, take_hn, ow_dfro, ow_dext, takeF_v, takeF_h, free_nil, free_cons, wipe_nil, wipe_cons, back_eq, patch_nil, patch_cons, li_3, li_4, li_5, li_6, li_7, frz_fro, frz_ext, frz_own, frz_non, frz_bl, frz_str, evS, ownOf, List.filterMap_cons, List.filterMap_nil, List.map_cons, List.map_nil, Option.map_some, Option.map_none, asgT, asgI, pp_1, List.nil_append, lenOk2, frzL_nil, frzL_cons, frz_tup, Int.mul_one, plainIx, intE, itE_t, itE_l, item_0, item_1, item_2, li_0, li_1, li_2, asgXs, takes_nil, takes_cons, swap, namesOn, headLine, Expr.pos, ed2, ed3, foldedForSure, constantsAlone, List.all_cons, List.all_nil, List.length_cons, List.length_nil, Nat.reduceAdd, Nat.reduceBEq, Nat.reduceBNe, Bool.or_true, Bool.or_false, Bool.true_or, Bool.false_or, beq_self_eq_true, bne_self_eq_false, List.set_cons_zero, List.set_cons_succ, evT, evTs, evE, evO, evA, evB, evP, evF, evI, evW, ofO_s, c_val, c_han, g_0, g_s, sole_v, sole_h, take_v, ow_non, ow_bl, ow_int, ow_str, ow_tup, ow_own, ow_fro, ow_ext, ow_ty, ow_fn, ow_dic, b_add, b_sub, b_mod, b_div, b_mul, n_non, n_bl, n_int, n_str, n_tup, n_lst, n_dic, m_is, m_isnot, m_lt, m_le, m_gt, m_ge, m_eq, m_ne, q_int, q_non1, q_non2, q_bl, t_bl, t_int, t_non, t_tup, t_lst, s_and, s_or, okC_lt, okC_le, okC_gt, okC_ge, okC_eq, okC_ne, okC_is, okC_isn, back_ok, at_sub, bnd_er, gOf_N, gOf_bor, sub_N, name_eq, asgN_eq, call_eq, lend_nil, lend_val, lend_han, gb_nil, gb_none, gb_some, noStar, Bool.false_eq_true, if_false, if_true, Bool.not_true, Bool.not_false, outsOf, decide_true, decide_false, Bool.true_and, Bool.and_true, Bool.false_and, Bool.and_false, reduceCtorEq, Option.map_some, frz, frz_int, contents_nil, contents_cons, bl_int, bl_bl, bl_lenT, bl_lenL, bl_abs, bl_max, bl_min, bl_listT, bl_listL, bl_tupT, bl_tupL, bl_any, bl_all, is_int, is_ty, is_non_int, is_non_bool, is_non_tuple, is_non_list, is_non_str, is_non_dict, is_bl_int, is_bl_bool, is_bl_tuple, is_bl_list, is_bl_str, is_bl_dict, is_int_bool, is_int_tuple, is_int_list, is_int_str, is_int_dict, is_str_int, is_str_bool, is_str_tuple, is_str_list, is_str_str, is_str_dict, is_tup_int, is_tup_bool, is_tup_tuple, is_tup_list, is_tup_str, is_tup_dict, is_lst_int, is_lst_bool, is_lst_tuple, is_lst_list, is_lst_str, is_lst_dict, is_dic_int, is_dic_bool, is_dic_tuple, is_dic_list, is_dic_str, is_dic_dict, l__law_pick_items, v__law_pick_items, o__law_pick_items, l__law_pick__law_roll, w__law_pick__law_roll, l__law_pick_dice, v__law_pick_dice, o__law_pick_dice, l__law_pick_len, w__law_pick_len, a__law_pick, k__law_roll, g__law_roll, r__law_roll, e__law_roll, k_len, g_len, f_len, b_len, r_len, e_len, *])
theorem take_h1 {e : En} {n j : Nat} : take e (.han n [j]) = (match getE e n with
    | some d => (match part d [j] with | some x => .ok (frz x, e.set n (some (frz d))) | none => .stuck)
    | none => .stuck) := by
  simp only [take]
  all_goals (cases getE e n <;> rfl)
theorem part_1 {xs : List D} {j : Nat} : part (.lst .own xs) [j] = xs[j]? := by
  simp only [part]
  cases xs[j]? <;> rfl
theorem bor_oo (a b c : Int) (xs : List D) : borOf [dI a b c, .lst .own xs] = [0, 1] := rfl
theorem E_law_pickO (k : Nat) (a b c : Int) (xs : List D) (d : D) (h0 : 0 < xs.length) (hl : xs.length < 1000) (hc : sm (c + 1)) (hd : xs[(rollM a b c xs.length).1.toNat]? = some d) (ho : owned d = false) :
    lev cM cT (k + 3) "_law_pick" [dI a b c, .lst .own xs] = .ok (d, [some (dI (rollM a b c xs.length).2.1 (rollM a b c xs.length).2.2.1 (rollM a b c xs.length).2.2.2), some (.lst .own xs)]) := by
  have n0 : (0 : Int) < (xs.length : Int) := by omega
  have ns : sm (xs.length : Int) := sm_nat 1000 (by omega) (by decide)
  have h1 := fun k => E_law_roll k a b c xs.length n0 ns hc
  obtain ⟨r0, r1⟩ := roll_lt a b c xs.length n0
  have hi := item_int r0 r1
  have od : ∀ a b c, owned (dI a b c) = true := fun _ _ _ => rfl
  have hb := bor_oo a b c xs
  clear r0 r1 n0 ns hc h0 hl
  apply wp_eq
  walk_at "go _law_pick"
  simp only [hb]
  clear hb
  walk_at "ev _law_pick"
theorem E_law_pickP (k : Nat) (a b c : Int) (xs : List D) (d : D) (h0 : 0 < xs.length) (hl : xs.length < 1000) (hc : sm (c + 1)) (hd : xs[(rollM a b c xs.length).1.toNat]? = some d) (ho : owned d = true) :
    lev cM cT (k + 3) "_law_pick" [dI a b c, .lst .own xs] = .ok (frz d, [some (dI (rollM a b c xs.length).2.1 (rollM a b c xs.length).2.2.1 (rollM a b c xs.length).2.2.2), some (.lst .fro (frzL xs))]) := by
  have n0 : (0 : Int) < (xs.length : Int) := by omega
  have ns : sm (xs.length : Int) := sm_nat 1000 (by omega) (by decide)
  have h1 := fun k => E_law_roll k a b c xs.length n0 ns hc
  obtain ⟨r0, r1⟩ := roll_lt a b c xs.length n0
  have hi := item_int r0 r1
  have od : ∀ a b c, owned (dI a b c) = true := fun _ _ _ => rfl
  have hb := bor_oo a b c xs
  have fo : frz (.lst .own xs) = .lst .fro (frzL xs) := frz_own
  have t1 := @take_h1
  have t2 := @part_1
  clear r0 r1 n0 ns hc h0 hl
  apply wp_eq
  walk_at "go _law_pick"
  simp only [hb]
  clear hb
  walk_at "ev _law_pick"
/-- the dice as they may stand -/
def Dice (m : Nat) (a b c : Int) : Prop := c.natAbs ≤ m
theorem Dice.sm {m : Nat} {a b c : Int} (h : Dice m a b c) (hm : m < 2 ^ 59) : K23.sm (c + 1) := sm_nat (m + 1) (by unfold Dice at h; omega) (by omega)
theorem Dice.next {m : Nat} {a b c n : Int} (h : Dice m a b c) : Dice (m + 1) (rollM a b c n).2.1 (rollM a b c n).2.2.1 (rollM a b c n).2.2.2 := by
  unfold Dice at h ⊢
  unfold rollM
  by_cases ha : 0 < a
  · simp only [ha, if_true]; omega
  · simp only [ha, if_false]; omega
theorem roll_ix (a b c : Int) {n : Nat} (h : 0 < n) : (rollM a b c n).1.toNat < n := by
  obtain ⟨r0, r1⟩ := roll_lt a b c n (by omega)
  omega
theorem frzL_getD : ∀ (xs : List D) (j : Nat), (frzL xs)[j]? = (xs[j]?).map frz
  | [], j => by simp [frzL]
  | x :: xs, 0 => by simp [frzL]
  | x :: xs, j + 1 => by simp only [frzL, List.getElem?_cons_succ]; exact frzL_getD xs j
mutual
theorem frz_bare2 : ∀ d : D, owned (frz d) = false
  | .lst .own ds => by simp only [frz]; rfl
  | .dic .own ks ds => by simp only [frz]; rfl
  | .lst .fro _ => rfl
  | .lst .ext _ => rfl
  | .dic .fro _ _ => rfl
  | .dic .ext _ _ => rfl
  | .non => rfl
  | .bl _ => rfl
  | .int _ => rfl
  | .str _ => rfl
  | .tup _ => rfl
  | .fn _ => rfl
  | .ty _ => rfl
  | .cloV _ => rfl
  | .cloX _ _ _ => rfl
end
theorem frzL_length : ∀ xs : List D, (frzL xs).length = xs.length
  | [] => rfl
  | x :: xs => by simp only [frzL, List.length_cons, frzL_length xs]
/-- one of a list that is handed over -/
theorem pick_L {m : Nat} {a b c : Int} (h : Dice m a b c) (hm : m < 2 ^ 59) (k : Nat) (xs : List D) (h0 : 0 < xs.length) (hl : xs.length < 1000) :
    ∃ j a' b' c', j < xs.length ∧ Dice (m + 1) a' b' c' ∧ lev cM cT (k + 3) "_law_pick" [dI a b c, .lst .fro (frzL xs)] = .ok (frz (xs.getD j .non), [some (dI a' b' c'), none]) := by
  have hx := roll_ix a b c (n := (frzL xs).length) (by rw [frzL_length]; exact h0)
  refine ⟨_, _, _, _, by rw [← frzL_length xs]; exact hx, h.next, E_law_pick k a b c (frzL xs) _ (by rw [frzL_length]; exact h0) (by rw [frzL_length]; exact hl) (h.sm hm) ?_ (frz_bare2 _)⟩
  rw [frzL_getD, List.getD_eq_getElem?_getD, List.getElem?_eq_getElem (by rw [← frzL_length xs]; exact hx)]
  rfl
/-- one of a list that stands in a slot -/
theorem pick_O {m : Nat} {a b c : Int} (h : Dice m a b c) (hm : m < 2 ^ 59) (k : Nat) (xs : List D) (h0 : 0 < xs.length) (hl : xs.length < 1000) :
    ∃ j a' b' c' d', j < xs.length ∧ Dice (m + 1) a' b' c' ∧ lev cM cT (k + 3) "_law_pick" [dI a b c, .lst .own xs] = .ok (frz (xs.getD j .non), [some (dI a' b' c'), some d']) := by
  have hx := roll_ix a b c (n := xs.length) h0
  have hd := List.getElem?_eq_getElem hx
  have e : xs.getD (rollM a b c xs.length).1.toNat .non = xs[(rollM a b c xs.length).1.toNat] := by rw [List.getD_eq_getElem?_getD, hd]; rfl
  cases ho : owned xs[(rollM a b c xs.length).1.toNat] with
  | true => exact ⟨_, _, _, _, _, hx, h.next, by rw [e]; exact E_law_pickP k a b c xs _ h0 hl (h.sm hm) hd ho⟩
  | false => exact ⟨_, _, _, _, _, hx, h.next, by rw [e, frz_bare ho]; exact E_law_pickO k a b c xs _ h0 hl (h.sm hm) hd ho⟩
end K23

set_option Elab.async false
set_option linter.all false
set_option maxRecDepth 100000
set_option maxHeartbeats 4000000
namespace K23
open PySem L2 Ev
def st (i : Nat) : Stmt := (defBody d__law_right.st).getD i (.Pass ⟨0, 0, 0, 0⟩)
theorem body_eq : defBody d__law_right.st = [st 0, st 1, st 2, st 3, st 4, st 5, st 6, st 7, st 8, st 9, st 10, st 11, st 12, st 13, st 14, st 15, st 16, st 17, st 18, st 19, st 20, st 21, st 22, st 23, st 24, st 25, st 26, st 27, st 28, st 29, st 30] := by kernel_rfl
abbrev C : Cl := levC cM cT 28
abbrev GR : Cn := gOf d__law_right [0]
def rhs : Stmt → Expr
  | .Assign _ v _ => v
  | _ => .Constant .none 0 ⟨0, 0, 0, 0⟩
def argB : Expr → Expr
  | .Call _ [_, b] _ _ => b
  | x => x
def valOf : R (RV × En) → D
  | .ok (.val d, _) => d
  | _ => .non
def itemsOf : D → List D
  | .lst _ xs => xs
  | _ => []
def slotA (i : Nat) : R Fl → D
  | .ok (.nx e) => (getE e i).getD .non
  | _ => .non
/-- the lists of which is drawn -/
def X0 : List D := itemsOf (valOf (evE cM C GR 60 (rhs (st 0)) []))
def XZ : List D := itemsOf (slotA 1 (evS cM C GR 60 10 (st 1) [none, some (.lst .own X0)]))
def XT : List D := itemsOf (valOf (evE cM C GR 60 (rhs (st 3)) []))
def XP (i : Nat) : List D := itemsOf (valOf (evE cM C GR 60 (argB (rhs (st i))) []))
abbrev E (d sm z g t b nu lo sr n told due call words word : Option D) : En := [d, sm, z, g, t, b, nu, lo, sr, n, told, due, call, words, word]
def good : D := .tup [.tup [.int 0, .int 0], .tup [.int 4, .int 0]]
theorem S0 (d : D) : evS cM C GR 60 199 (st 0) (E (some d) none none none none none none none none none none none none none none) = .ok (.nx (E (some d) (some (.lst .own X0)) none none none none none none none none none none none none none)) := by kernel_rfl
theorem S1 (d : D) : evS cM C GR 60 198 (st 1) (E (some d) (some (.lst .own X0)) none none none none none none none none none none none none none) = .ok (.nx (E (some d) (some (.lst .own XZ)) none none none none none none none none none none none none none)) := by kernel_rfl
theorem at_C : C.at GR = lev cM cT 28 := at_gOf rfl
theorem lenZ : XZ.length = 13 := by kernel_rfl
theorem lenT : XT.length = 10 := by kernel_rfl
theorem S2 {a b c a' b' c' : Int} {z sm' : D} (hp : lev cM cT 28 "_law_pick" [dI a b c, .lst .own XZ] = .ok (z, [some (dI a' b' c'), some sm'])) :
    evS cM C GR 60 197 (st 2) (E (some (dI a b c)) (some (.lst .own XZ)) none none none none none none none none none none none none none) = .ok (.nx (E (some (dI a' b' c')) (some sm') (some z) (some good) none none none none none none none none none none none)) := by
  refine evS_tup (n := 196) (rs := [.val z, .val good]) (ds := [z, good]) (e1 := E (some (dI a' b' c')) (some sm') none none none none none none none none none none none none none) (e2 := E (some (dI a' b' c')) (some sm') none none none none none none none none none none none none none) (by kernel_rfl) (by kernel_rfl) (evA_2 (n := 58) (e1 := E (some (dI a' b' c')) (some sm') none none none none none none none none none none none none none) ?_ (by kernel_rfl)) (by kernel_rfl) (by kernel_rfl) (by kernel_rfl)
  exact evO_call2 (M := cM) (cl := C) (G := GR) (ds := [dI a b c, .lst .own XZ]) (outs := [some (dI a' b' c'), some sm']) (n := 55) (f := "_law_pick") (v := .han 0 []) (x := .han 1 []) (is := [some 0, some 1]) (e1 := E (some (dI a b c)) (some (.lst .own XZ)) none none none none none none none none none none none none none) (e2 := E (some (dI a b c)) (some (.lst .own XZ)) none none none none none none none none none none none none none) (e3 := E none none none none none none none none none none none none none none none)
    (by kernel_rfl) (by kernel_rfl) (by kernel_rfl) (by kernel_rfl) (by kernel_rfl) (by kernel_rfl) (by kernel_rfl) (by rw [at_C]; exact hp) (by kernel_rfl)
theorem S3 (d sm' z : D) : evS cM C GR 60 196 (st 3) (E (some d) (some sm') (some z) (some good) none none none none none none none none none none none) = .ok (.nx (E (some d) (some (.lst .own XT)) (some z) (some good) none none none none none none none none none none none)) := by kernel_rfl
theorem S4 {a b c a' b' c' : Int} {z t sm' : D} (hp : lev cM cT 28 "_law_pick" [dI a b c, .lst .own XT] = .ok (t, [some (dI a' b' c'), some sm'])) :
    evS cM C GR 60 195 (st 4) (E (some (dI a b c)) (some (.lst .own XT)) (some z) (some good) none none none none none none none none none none none) = .ok (.nx (E (some (dI a' b' c')) (some sm') (some z) (some good) (some t) none none none none none none none none none none)) := by
  refine evS_asg (n := 194) (i := 4) (rv := .val t) (e1 := E (some (dI a' b' c')) (some sm') (some z) (some good) none none none none none none none none none none none) (e2 := E (some (dI a' b' c')) (some sm') (some z) (some good) none none none none none none none none none none none) (by kernel_rfl) (by kernel_rfl) (by kernel_rfl) (by kernel_rfl) ?_ (by kernel_rfl) (by simp)
  exact evE_call2 (M := cM) (cl := C) (G := GR) (ds := [dI a b c, .lst .own XT]) (outs := [some (dI a' b' c'), some sm']) (n := 57) (f := "_law_pick") (v := .han 0 []) (x := .han 1 []) (is := [some 0, some 1]) (e1 := E (some (dI a b c)) (some (.lst .own XT)) (some z) (some good) none none none none none none none none none none none) (e2 := E (some (dI a b c)) (some (.lst .own XT)) (some z) (some good) none none none none none none none none none none none) (e3 := E none none (some z) (some good) none none none none none none none none none none none)
    (by kernel_rfl) (by kernel_rfl) (by kernel_rfl) (by kernel_rfl) (by kernel_rfl) (by kernel_rfl) (by kernel_rfl) (by rw [at_C]; exact hp) (by kernel_rfl)
/-- x = _law_pick(dice, [..]) -/
theorem SP {i ix m : Nat} {x : Str} {p1 p2 p3 p4 p5 : Pos} {L : Expr} {xs : List D} {a b c a' b' c' : Int} {r : En} {v : D} (hs : st i = .Assign [.Name x p1] (.Call (.Name "_law_pick" p2) [.Name "dice" p3, L] [] p4) p5)
    (hp : lev cM cT 28 "_law_pick" [dI a b c, .lst .fro (frzL xs)] = .ok (v, [some (dI a' b' c'), none])) (hx : okN GR x = true) (hx2 : slotOf GR.N x = some ix) (hx3 : GR.loc x = true) (hx4 : GR.bor.contains ix = false)
    (hn : noStar [.Name "dice" p3, L] = true) (hd : evO cM C GR 58 (.Name "dice" p3) (some (dI a b c) :: r) = .ok (.han 0 [], some (dI a b c) :: r)) (hL : evO cM C GR 57 L (some (dI a b c) :: r) = .ok (.val (.lst .own xs), some (dI a b c) :: r)) (hlen : ix < r.length + 1) :
    evS cM C GR 60 (m + 1) (st i) (some (dI a b c) :: r) = .ok (.nx ((some (dI a' b' c') :: r).set ix (some v))) := by
  rw [hs]
  refine evS_asg (rv := .val v) (e1 := some (dI a' b' c') :: r) (e2 := some (dI a' b' c') :: r) hx hx2 hx3 hx4 ?_ rfl (by simpa using hlen)
  exact evE_call2 (M := cM) (cl := C) (G := GR) (ds := [dI a b c, .lst .fro (frzL xs)]) (outs := [some (dI a' b' c'), none]) (n := 57) (f := "_law_pick") (v := .han 0 []) (x := .val (.lst .own xs)) (is := [some 0, none]) (e1 := some (dI a b c) :: r) (e2 := some (dI a b c) :: r) (e3 := none :: r)
    hn (by kernel_rfl) (by kernel_rfl) (by kernel_rfl) hd hL (by simp only [lend, getE, frz]; rfl) (by rw [at_C]; exact hp) (by rfl)
theorem S5 {a b c a' b' c' : Int} {z t sm' v : D} (hp : lev cM cT 28 "_law_pick" [dI a b c, .lst .fro (frzL (XP 5))] = .ok (v, [some (dI a' b' c'), none])) :
    evS cM C GR 60 194 (st 5) (E (some (dI a b c)) (some sm') (some z) (some good) (some t) none none none none none none none none none none) = .ok (.nx (E (some (dI a' b' c')) (some sm') (some z) (some good) (some t) (some v) none none none none none none none none none)) :=
  SP (ix := 5) rfl hp (by kernel_rfl) (by kernel_rfl) (by kernel_rfl) (by kernel_rfl) (by kernel_rfl) (by kernel_rfl) (by kernel_rfl) (by simp)
theorem S6 {a b' c a' b'' c' : Int} {z t sm' b v : D} (hp : lev cM cT 28 "_law_pick" [dI a b' c, .lst .fro (frzL (XP 6))] = .ok (v, [some (dI a' b'' c'), none])) :
    evS cM C GR 60 193 (st 6) (E (some (dI a b' c)) (some sm') (some z) (some good) (some t) (some b) none none none none none none none none none) = .ok (.nx (E (some (dI a' b'' c')) (some sm') (some z) (some good) (some t) (some b) (some v) none none none none none none none none)) :=
  SP (ix := 6) rfl hp (by kernel_rfl) (by kernel_rfl) (by kernel_rfl) (by kernel_rfl) (by kernel_rfl) (by kernel_rfl) (by kernel_rfl) (by simp)
theorem S7 {a b' c a' b'' c' : Int} {z t sm' b nu v : D} (hp : lev cM cT 28 "_law_pick" [dI a b' c, .lst .fro (frzL (XP 7))] = .ok (v, [some (dI a' b'' c'), none])) :
    evS cM C GR 60 192 (st 7) (E (some (dI a b' c)) (some sm') (some z) (some good) (some t) (some b) (some nu) none none none none none none none none) = .ok (.nx (E (some (dI a' b'' c')) (some sm') (some z) (some good) (some t) (some b) (some nu) (some v) none none none none none none none)) :=
  SP (ix := 7) rfl hp (by kernel_rfl) (by kernel_rfl) (by kernel_rfl) (by kernel_rfl) (by kernel_rfl) (by kernel_rfl) (by kernel_rfl) (by simp)
theorem S8 {a b' c a' b'' c' : Int} {z t sm' b nu lo v : D} (hp : lev cM cT 28 "_law_pick" [dI a b' c, .lst .fro (frzL (XP 8))] = .ok (v, [some (dI a' b'' c'), none])) :
    evS cM C GR 60 191 (st 8) (E (some (dI a b' c)) (some sm') (some z) (some good) (some t) (some b) (some nu) (some lo) none none none none none none none) = .ok (.nx (E (some (dI a' b'' c')) (some sm') (some z) (some good) (some t) (some b) (some nu) (some lo) (some v) none none none none none none)) :=
  SP (ix := 8) rfl hp (by kernel_rfl) (by kernel_rfl) (by kernel_rfl) (by kernel_rfl) (by kernel_rfl) (by kernel_rfl) (by kernel_rfl) (by simp)
theorem S9 {a b' c a' b'' c' : Int} {z t sm' b nu lo sr v : D} (hp : lev cM cT 28 "_law_pick" [dI a b' c, .lst .fro (frzL (XP 9))] = .ok (v, [some (dI a' b'' c'), none])) :
    evS cM C GR 60 190 (st 9) (E (some (dI a b' c)) (some sm') (some z) (some good) (some t) (some b) (some nu) (some lo) (some sr) none none none none none none) = .ok (.nx (E (some (dI a' b'' c')) (some sm') (some z) (some good) (some t) (some b) (some nu) (some lo) (some sr) (some v) none none none none none)) :=
  SP (ix := 9) rfl hp (by kernel_rfl) (by kernel_rfl) (by kernel_rfl) (by kernel_rfl) (by kernel_rfl) (by kernel_rfl) (by kernel_rfl) (by simp)
end K23

set_option Elab.async false
set_option linter.all false
set_option maxRecDepth 100000
set_option maxHeartbeats 4000000
namespace K23
open PySem L2 Ev
def Vz (j : Nat) : D := frz (XZ.getD j .non)
def Vt (j : Nat) : D := frz (XT.getD j .non)
def Vp (i j : Nat) : D := frz ((XP i).getD j .non)
def rz (x : String) : D := .tup [.str (s "raised"), .str (s x)]
def rn (n : D) : D := .tup [.str (s "raised"), .str (s "number"), n]
def dn (n : D) : D := .tup [.str (s "number"), n]
def ds' (x : String) : D := .str (s x)

theorem S10 {d sm : D} {zv tv bv nuv lov srv nv : D} : evS cM C GR 60 189 (st 10) (E (some d) (some sm) (some zv) (some good) (some tv) (some bv) (some nuv) (some lov) (some srv) (some nv) none none none none none) = .ok (.nx (E (some d) (some sm) (some zv) (some good) (some tv) (some bv) (some nuv) (some lov) (some srv) (some nv) (some (.lst .own [])) (some (.lst .own [])) none none none)) := by kernel_rfl
theorem S11 {d sm : D} {zv tv nuv lov srv nv : D} (jb : Nat) (hb : jb < 6) : evS cM C GR 60 188 (st 11) (E (some d) (some sm) (some zv) (some good) (some tv) (some (Vp 5 jb)) (some nuv) (some lov) (some srv) (some nv) (some (.lst .own [])) (some (.lst .own [])) none none none) = .ok (.nx (E (some d) (some sm) (some zv) (some good) (some tv) (some (Vp 5 jb)) (some nuv) (some lov) (some srv) (some nv) (some (.lst .own [rz "operation"])) (some (.lst .own [])) none none none)) :=
  match jb, hb with
  | 0, _ => by kernel_rfl
  | 1, _ => by kernel_rfl
  | 2, _ => by kernel_rfl
  | 3, _ => by kernel_rfl
  | 4, _ => by kernel_rfl
  | 5, _ => by kernel_rfl

theorem S12 {d sm : D} {zv tv nuv lov srv nv : D} (jb : Nat) (hb : jb < 6) : evS cM C GR 60 187 (st 12) (E (some d) (some sm) (some zv) (some good) (some tv) (some (Vp 5 jb)) (some nuv) (some lov) (some srv) (some nv) (some (.lst .own [rz "operation"])) (some (.lst .own [])) none none none) = .ok (.nx (E (some d) (some sm) (some zv) (some good) (some tv) (some (Vp 5 jb)) (some nuv) (some lov) (some srv) (some nv) (some (.lst .own [rz "operation", rz "operation"])) (some (.lst .own [])) none none none)) :=
  match jb, hb with
  | 0, _ => by kernel_rfl
  | 1, _ => by kernel_rfl
  | 2, _ => by kernel_rfl
  | 3, _ => by kernel_rfl
  | 4, _ => by kernel_rfl
  | 5, _ => by kernel_rfl

theorem S13 {d sm : D} {zv tv bv nuv lov srv nv : D} : evS cM C GR 60 186 (st 13) (E (some d) (some sm) (some zv) (some good) (some tv) (some bv) (some nuv) (some lov) (some srv) (some nv) (some (.lst .own [rz "operation", rz "operation"])) (some (.lst .own [])) none none none) = .ok (.nx (E (some d) (some sm) (some zv) (some good) (some tv) (some bv) (some nuv) (some lov) (some srv) (some nv) (some (.lst .own [rz "operation", rz "operation"])) (some (.lst .own [ds' "operation", ds' "operation"])) none none none)) := by kernel_rfl
theorem S14 {d sm : D} {zv bv nuv lov srv nv : D} (jt : Nat) (ht : jt < 10) : evS cM C GR 60 185 (st 14) (E (some d) (some sm) (some zv) (some good) (some (Vt jt)) (some bv) (some nuv) (some lov) (some srv) (some nv) (some (.lst .own [rz "operation", rz "operation"])) (some (.lst .own [ds' "operation", ds' "operation"])) none none none) = .ok (.nx (E (some d) (some sm) (some zv) (some good) (some (Vt jt)) (some bv) (some nuv) (some lov) (some srv) (some nv) (some (.lst .own [rz "operation", rz "operation", rz "table", rz "table"])) (some (.lst .own [ds' "operation", ds' "operation", ds' "table", ds' "table"])) (some (.fn (s "ring_in"))) none none)) :=
  match jt, ht with
  | 0, _ => by kernel_rfl
  | 1, _ => by kernel_rfl
  | 2, _ => by kernel_rfl
  | 3, _ => by kernel_rfl
  | 4, _ => by kernel_rfl
  | 5, _ => by kernel_rfl
  | 6, _ => by kernel_rfl
  | 7, _ => by kernel_rfl
  | 8, _ => by kernel_rfl
  | 9, _ => by kernel_rfl

theorem S15 {d sm : D} {zv bv nuv lov srv nv : D} (jt : Nat) (ht : jt < 10) : evS cM C GR 60 184 (st 15) (E (some d) (some sm) (some zv) (some good) (some (Vt jt)) (some bv) (some nuv) (some lov) (some srv) (some nv) (some (.lst .own [rz "operation", rz "operation", rz "table", rz "table"])) (some (.lst .own [ds' "operation", ds' "operation", ds' "table", ds' "table"])) (some (.fn (s "ring_in"))) none none) = .ok (.nx (E (some d) (some sm) (some zv) (some good) (some (Vt jt)) (some bv) (some nuv) (some lov) (some srv) (some nv) (some (.lst .own [rz "operation", rz "operation", rz "table", rz "table", rz "table"])) (some (.lst .own [ds' "operation", ds' "operation", ds' "table", ds' "table"])) (some (.fn (s "ring_in"))) none none)) :=
  match jt, ht with
  | 0, _ => by kernel_rfl
  | 1, _ => by kernel_rfl
  | 2, _ => by kernel_rfl
  | 3, _ => by kernel_rfl
  | 4, _ => by kernel_rfl
  | 5, _ => by kernel_rfl
  | 6, _ => by kernel_rfl
  | 7, _ => by kernel_rfl
  | 8, _ => by kernel_rfl
  | 9, _ => by kernel_rfl

theorem S16 {d sm : D} {zv tv bv nuv lov srv nv : D} : evS cM C GR 60 183 (st 16) (E (some d) (some sm) (some zv) (some good) (some tv) (some bv) (some nuv) (some lov) (some srv) (some nv) (some (.lst .own [rz "operation", rz "operation", rz "table", rz "table", rz "table"])) (some (.lst .own [ds' "operation", ds' "operation", ds' "table", ds' "table"])) (some (.fn (s "ring_in"))) none none) = .ok (.nx (E (some d) (some sm) (some zv) (some good) (some tv) (some bv) (some nuv) (some lov) (some srv) (some nv) (some (.lst .own [rz "operation", rz "operation", rz "table", rz "table", rz "table"])) (some (.lst .own [ds' "operation", ds' "operation", ds' "table", ds' "table", ds' "table"])) (some (.fn (s "ring_in"))) none none)) := by kernel_rfl
theorem S17 {d sm : D} {tv bv lov srv nv : D} (jz : Nat) (hz : jz < 13) (jnu : Nat) (hnu : jnu < 8) : evS cM C GR 60 182 (st 17) (E (some d) (some sm) (some (Vz jz)) (some good) (some tv) (some bv) (some (Vp 6 jnu)) (some lov) (some srv) (some nv) (some (.lst .own [rz "operation", rz "operation", rz "table", rz "table", rz "table"])) (some (.lst .own [ds' "operation", ds' "operation", ds' "table", ds' "table", ds' "table"])) (some (.fn (s "ring_in"))) none none) = .ok (.nx (E (some d) (some sm) (some (Vz jz)) (some good) (some tv) (some bv) (some (Vp 6 jnu)) (some lov) (some srv) (some nv) (some (.lst .own [rz "operation", rz "operation", rz "table", rz "table", rz "table", rz "table"])) (some (.lst .own [ds' "operation", ds' "operation", ds' "table", ds' "table", ds' "table"])) (some (.fn (s "ring_in"))) none none)) :=
  match jz, hz, jnu, hnu with
  | 0, _, 0, _ => by kernel_rfl
  | 0, _, 1, _ => by kernel_rfl
  | 0, _, 2, _ => by kernel_rfl
  | 0, _, 3, _ => by kernel_rfl
  | 0, _, 4, _ => by kernel_rfl
  | 0, _, 5, _ => by kernel_rfl
  | 0, _, 6, _ => by kernel_rfl
  | 0, _, 7, _ => by kernel_rfl
  | 1, _, 0, _ => by kernel_rfl
  | 1, _, 1, _ => by kernel_rfl
  | 1, _, 2, _ => by kernel_rfl
  | 1, _, 3, _ => by kernel_rfl
  | 1, _, 4, _ => by kernel_rfl
  | 1, _, 5, _ => by kernel_rfl
  | 1, _, 6, _ => by kernel_rfl
  | 1, _, 7, _ => by kernel_rfl
  | 2, _, 0, _ => by kernel_rfl
  | 2, _, 1, _ => by kernel_rfl
  | 2, _, 2, _ => by kernel_rfl
  | 2, _, 3, _ => by kernel_rfl
  | 2, _, 4, _ => by kernel_rfl
  | 2, _, 5, _ => by kernel_rfl
  | 2, _, 6, _ => by kernel_rfl
  | 2, _, 7, _ => by kernel_rfl
  | 3, _, 0, _ => by kernel_rfl
  | 3, _, 1, _ => by kernel_rfl
  | 3, _, 2, _ => by kernel_rfl
  | 3, _, 3, _ => by kernel_rfl
  | 3, _, 4, _ => by kernel_rfl
  | 3, _, 5, _ => by kernel_rfl
  | 3, _, 6, _ => by kernel_rfl
  | 3, _, 7, _ => by kernel_rfl
  | 4, _, 0, _ => by kernel_rfl
  | 4, _, 1, _ => by kernel_rfl
  | 4, _, 2, _ => by kernel_rfl
  | 4, _, 3, _ => by kernel_rfl
  | 4, _, 4, _ => by kernel_rfl
  | 4, _, 5, _ => by kernel_rfl
  | 4, _, 6, _ => by kernel_rfl
  | 4, _, 7, _ => by kernel_rfl
  | 5, _, 0, _ => by kernel_rfl
  | 5, _, 1, _ => by kernel_rfl
  | 5, _, 2, _ => by kernel_rfl
  | 5, _, 3, _ => by kernel_rfl
  | 5, _, 4, _ => by kernel_rfl
  | 5, _, 5, _ => by kernel_rfl
  | 5, _, 6, _ => by kernel_rfl
  | 5, _, 7, _ => by kernel_rfl
  | 6, _, 0, _ => by kernel_rfl
  | 6, _, 1, _ => by kernel_rfl
  | 6, _, 2, _ => by kernel_rfl
  | 6, _, 3, _ => by kernel_rfl
  | 6, _, 4, _ => by kernel_rfl
  | 6, _, 5, _ => by kernel_rfl
  | 6, _, 6, _ => by kernel_rfl
  | 6, _, 7, _ => by kernel_rfl
  | 7, _, 0, _ => by kernel_rfl
  | 7, _, 1, _ => by kernel_rfl
  | 7, _, 2, _ => by kernel_rfl
  | 7, _, 3, _ => by kernel_rfl
  | 7, _, 4, _ => by kernel_rfl
  | 7, _, 5, _ => by kernel_rfl
  | 7, _, 6, _ => by kernel_rfl
  | 7, _, 7, _ => by kernel_rfl
  | 8, _, 0, _ => by kernel_rfl
  | 8, _, 1, _ => by kernel_rfl
  | 8, _, 2, _ => by kernel_rfl
  | 8, _, 3, _ => by kernel_rfl
  | 8, _, 4, _ => by kernel_rfl
  | 8, _, 5, _ => by kernel_rfl
  | 8, _, 6, _ => by kernel_rfl
  | 8, _, 7, _ => by kernel_rfl
  | 9, _, 0, _ => by kernel_rfl
  | 9, _, 1, _ => by kernel_rfl
  | 9, _, 2, _ => by kernel_rfl
  | 9, _, 3, _ => by kernel_rfl
  | 9, _, 4, _ => by kernel_rfl
  | 9, _, 5, _ => by kernel_rfl
  | 9, _, 6, _ => by kernel_rfl
  | 9, _, 7, _ => by kernel_rfl
  | 10, _, 0, _ => by kernel_rfl
  | 10, _, 1, _ => by kernel_rfl
  | 10, _, 2, _ => by kernel_rfl
  | 10, _, 3, _ => by kernel_rfl
  | 10, _, 4, _ => by kernel_rfl
  | 10, _, 5, _ => by kernel_rfl
  | 10, _, 6, _ => by kernel_rfl
  | 10, _, 7, _ => by kernel_rfl
  | 11, _, 0, _ => by kernel_rfl
  | 11, _, 1, _ => by kernel_rfl
  | 11, _, 2, _ => by kernel_rfl
  | 11, _, 3, _ => by kernel_rfl
  | 11, _, 4, _ => by kernel_rfl
  | 11, _, 5, _ => by kernel_rfl
  | 11, _, 6, _ => by kernel_rfl
  | 11, _, 7, _ => by kernel_rfl
  | 12, _, 0, _ => by kernel_rfl
  | 12, _, 1, _ => by kernel_rfl
  | 12, _, 2, _ => by kernel_rfl
  | 12, _, 3, _ => by kernel_rfl
  | 12, _, 4, _ => by kernel_rfl
  | 12, _, 5, _ => by kernel_rfl
  | 12, _, 6, _ => by kernel_rfl
  | 12, _, 7, _ => by kernel_rfl

theorem S18 {d sm : D} {zv tv bv lov srv nv : D} (jnu : Nat) (hnu : jnu < 8) : evS cM C GR 60 181 (st 18) (E (some d) (some sm) (some zv) (some good) (some tv) (some bv) (some (Vp 6 jnu)) (some lov) (some srv) (some nv) (some (.lst .own [rz "operation", rz "operation", rz "table", rz "table", rz "table", rz "table"])) (some (.lst .own [ds' "operation", ds' "operation", ds' "table", ds' "table", ds' "table"])) (some (.fn (s "ring_in"))) none none) = .ok (.nx (E (some d) (some sm) (some zv) (some good) (some tv) (some bv) (some (Vp 6 jnu)) (some lov) (some srv) (some nv) (some (.lst .own [rz "operation", rz "operation", rz "table", rz "table", rz "table", rz "table", rz "operation"])) (some (.lst .own [ds' "operation", ds' "operation", ds' "table", ds' "table", ds' "table"])) (some (.fn (s "ring_in"))) none none)) :=
  match jnu, hnu with
  | 0, _ => by kernel_rfl
  | 1, _ => by kernel_rfl
  | 2, _ => by kernel_rfl
  | 3, _ => by kernel_rfl
  | 4, _ => by kernel_rfl
  | 5, _ => by kernel_rfl
  | 6, _ => by kernel_rfl
  | 7, _ => by kernel_rfl

theorem S19 {d sm : D} {tv bv nuv lov srv nv : D} (jz : Nat) (hz : jz < 13) : evS cM C GR 60 180 (st 19) (E (some d) (some sm) (some (Vz jz)) (some good) (some tv) (some bv) (some nuv) (some lov) (some srv) (some nv) (some (.lst .own [rz "operation", rz "operation", rz "table", rz "table", rz "table", rz "table", rz "operation"])) (some (.lst .own [ds' "operation", ds' "operation", ds' "table", ds' "table", ds' "table"])) (some (.fn (s "ring_in"))) none none) = .ok (.nx (E (some d) (some sm) (some (Vz jz)) (some good) (some tv) (some bv) (some nuv) (some lov) (some srv) (some nv) (some (.lst .own [rz "operation", rz "operation", rz "table", rz "table", rz "table", rz "table", rz "operation", rz "table"])) (some (.lst .own [ds' "operation", ds' "operation", ds' "table", ds' "table", ds' "table"])) (some (.fn (s "ring_in"))) none none)) :=
  match jz, hz with
  | 0, _ => by kernel_rfl
  | 1, _ => by kernel_rfl
  | 2, _ => by kernel_rfl
  | 3, _ => by kernel_rfl
  | 4, _ => by kernel_rfl
  | 5, _ => by kernel_rfl
  | 6, _ => by kernel_rfl
  | 7, _ => by kernel_rfl
  | 8, _ => by kernel_rfl
  | 9, _ => by kernel_rfl
  | 10, _ => by kernel_rfl
  | 11, _ => by kernel_rfl
  | 12, _ => by kernel_rfl

theorem S20 {d sm : D} {zv tv bv nuv lov srv nv : D} : evS cM C GR 60 179 (st 20) (E (some d) (some sm) (some zv) (some good) (some tv) (some bv) (some nuv) (some lov) (some srv) (some nv) (some (.lst .own [rz "operation", rz "operation", rz "table", rz "table", rz "table", rz "table", rz "operation", rz "table"])) (some (.lst .own [ds' "operation", ds' "operation", ds' "table", ds' "table", ds' "table"])) (some (.fn (s "ring_in"))) none none) = .ok (.nx (E (some d) (some sm) (some zv) (some good) (some tv) (some bv) (some nuv) (some lov) (some srv) (some nv) (some (.lst .own [rz "operation", rz "operation", rz "table", rz "table", rz "table", rz "table", rz "operation", rz "table"])) (some (.lst .own [ds' "operation", ds' "operation", ds' "table", ds' "table", ds' "table", ds' "table", ds' "operation", ds' "table"])) (some (.fn (s "ring_in"))) none none)) := by kernel_rfl
theorem S21 {d sm : D} {tv bv nuv lov srv nv : D} (jz : Nat) (hz : jz < 13) : evS cM C GR 60 178 (st 21) (E (some d) (some sm) (some (Vz jz)) (some good) (some tv) (some bv) (some nuv) (some lov) (some srv) (some nv) (some (.lst .own [rz "operation", rz "operation", rz "table", rz "table", rz "table", rz "table", rz "operation", rz "table"])) (some (.lst .own [ds' "operation", ds' "operation", ds' "table", ds' "table", ds' "table", ds' "table", ds' "operation", ds' "table"])) (some (.fn (s "ring_in"))) none none) = .ok (.nx (E (some d) (some sm) (some (Vz jz)) (some good) (some tv) (some bv) (some nuv) (some lov) (some srv) (some nv) (some (.lst .own [rz "operation", rz "operation", rz "table", rz "table", rz "table", rz "table", rz "operation", rz "table", rz "table", rz "table", rz "operation", rz "table", rz "table", rz "operation"])) (some (.lst .own [ds' "operation", ds' "operation", ds' "table", ds' "table", ds' "table", ds' "table", ds' "operation", ds' "table", ds' "table", ds' "table", ds' "operation", ds' "table", ds' "table", ds' "operation"])) (some (.fn (s "common"))) none none)) :=
  match jz, hz with
  | 0, _ => by kernel_rfl
  | 1, _ => by kernel_rfl
  | 2, _ => by kernel_rfl
  | 3, _ => by kernel_rfl
  | 4, _ => by kernel_rfl
  | 5, _ => by kernel_rfl
  | 6, _ => by kernel_rfl
  | 7, _ => by kernel_rfl
  | 8, _ => by kernel_rfl
  | 9, _ => by kernel_rfl
  | 10, _ => by kernel_rfl
  | 11, _ => by kernel_rfl
  | 12, _ => by kernel_rfl

theorem S22 {d sm : D} {tv bv nuv lov srv nv : D} (jz : Nat) (hz : jz < 13) : evS cM C GR 60 177 (st 22) (E (some d) (some sm) (some (Vz jz)) (some good) (some tv) (some bv) (some nuv) (some lov) (some srv) (some nv) (some (.lst .own [rz "operation", rz "operation", rz "table", rz "table", rz "table", rz "table", rz "operation", rz "table", rz "table", rz "table", rz "operation", rz "table", rz "table", rz "operation"])) (some (.lst .own [ds' "operation", ds' "operation", ds' "table", ds' "table", ds' "table", ds' "table", ds' "operation", ds' "table", ds' "table", ds' "table", ds' "operation", ds' "table", ds' "table", ds' "operation"])) (some (.fn (s "common"))) none none) = .ok (.nx (E (some d) (some sm) (some (Vz jz)) (some good) (some tv) (some bv) (some nuv) (some lov) (some srv) (some nv) (some (.lst .own [rz "operation", rz "operation", rz "table", rz "table", rz "table", rz "table", rz "operation", rz "table", rz "table", rz "table", rz "operation", rz "table", rz "table", rz "operation", rz "table"])) (some (.lst .own [ds' "operation", ds' "operation", ds' "table", ds' "table", ds' "table", ds' "table", ds' "operation", ds' "table", ds' "table", ds' "table", ds' "operation", ds' "table", ds' "table", ds' "operation"])) (some (.fn (s "common"))) none none)) :=
  match jz, hz with
  | 0, _ => by kernel_rfl
  | 1, _ => by kernel_rfl
  | 2, _ => by kernel_rfl
  | 3, _ => by kernel_rfl
  | 4, _ => by kernel_rfl
  | 5, _ => by kernel_rfl
  | 6, _ => by kernel_rfl
  | 7, _ => by kernel_rfl
  | 8, _ => by kernel_rfl
  | 9, _ => by kernel_rfl
  | 10, _ => by kernel_rfl
  | 11, _ => by kernel_rfl
  | 12, _ => by kernel_rfl

theorem S23 {d sm : D} {tv bv nuv srv nv : D} (jz : Nat) (hz : jz < 13) (jlo : Nat) (hlo : jlo < 8) : evS cM C GR 60 176 (st 23) (E (some d) (some sm) (some (Vz jz)) (some good) (some tv) (some bv) (some nuv) (some (Vp 7 jlo)) (some srv) (some nv) (some (.lst .own [rz "operation", rz "operation", rz "table", rz "table", rz "table", rz "table", rz "operation", rz "table", rz "table", rz "table", rz "operation", rz "table", rz "table", rz "operation", rz "table"])) (some (.lst .own [ds' "operation", ds' "operation", ds' "table", ds' "table", ds' "table", ds' "table", ds' "operation", ds' "table", ds' "table", ds' "table", ds' "operation", ds' "table", ds' "table", ds' "operation"])) (some (.fn (s "common"))) none none) = .ok (.nx (E (some d) (some sm) (some (Vz jz)) (some good) (some tv) (some bv) (some nuv) (some (Vp 7 jlo)) (some srv) (some nv) (some (.lst .own [rz "operation", rz "operation", rz "table", rz "table", rz "table", rz "table", rz "operation", rz "table", rz "table", rz "table", rz "operation", rz "table", rz "table", rz "operation", rz "table", rz "table"])) (some (.lst .own [ds' "operation", ds' "operation", ds' "table", ds' "table", ds' "table", ds' "table", ds' "operation", ds' "table", ds' "table", ds' "table", ds' "operation", ds' "table", ds' "table", ds' "operation"])) (some (.fn (s "common"))) none none)) :=
  match jz, hz, jlo, hlo with
  | 0, _, 0, _ => by kernel_rfl
  | 0, _, 1, _ => by kernel_rfl
  | 0, _, 2, _ => by kernel_rfl
  | 0, _, 3, _ => by kernel_rfl
  | 0, _, 4, _ => by kernel_rfl
  | 0, _, 5, _ => by kernel_rfl
  | 0, _, 6, _ => by kernel_rfl
  | 0, _, 7, _ => by kernel_rfl
  | 1, _, 0, _ => by kernel_rfl
  | 1, _, 1, _ => by kernel_rfl
  | 1, _, 2, _ => by kernel_rfl
  | 1, _, 3, _ => by kernel_rfl
  | 1, _, 4, _ => by kernel_rfl
  | 1, _, 5, _ => by kernel_rfl
  | 1, _, 6, _ => by kernel_rfl
  | 1, _, 7, _ => by kernel_rfl
  | 2, _, 0, _ => by kernel_rfl
  | 2, _, 1, _ => by kernel_rfl
  | 2, _, 2, _ => by kernel_rfl
  | 2, _, 3, _ => by kernel_rfl
  | 2, _, 4, _ => by kernel_rfl
  | 2, _, 5, _ => by kernel_rfl
  | 2, _, 6, _ => by kernel_rfl
  | 2, _, 7, _ => by kernel_rfl
  | 3, _, 0, _ => by kernel_rfl
  | 3, _, 1, _ => by kernel_rfl
  | 3, _, 2, _ => by kernel_rfl
  | 3, _, 3, _ => by kernel_rfl
  | 3, _, 4, _ => by kernel_rfl
  | 3, _, 5, _ => by kernel_rfl
  | 3, _, 6, _ => by kernel_rfl
  | 3, _, 7, _ => by kernel_rfl
  | 4, _, 0, _ => by kernel_rfl
  | 4, _, 1, _ => by kernel_rfl
  | 4, _, 2, _ => by kernel_rfl
  | 4, _, 3, _ => by kernel_rfl
  | 4, _, 4, _ => by kernel_rfl
  | 4, _, 5, _ => by kernel_rfl
  | 4, _, 6, _ => by kernel_rfl
  | 4, _, 7, _ => by kernel_rfl
  | 5, _, 0, _ => by kernel_rfl
  | 5, _, 1, _ => by kernel_rfl
  | 5, _, 2, _ => by kernel_rfl
  | 5, _, 3, _ => by kernel_rfl
  | 5, _, 4, _ => by kernel_rfl
  | 5, _, 5, _ => by kernel_rfl
  | 5, _, 6, _ => by kernel_rfl
  | 5, _, 7, _ => by kernel_rfl
  | 6, _, 0, _ => by kernel_rfl
  | 6, _, 1, _ => by kernel_rfl
  | 6, _, 2, _ => by kernel_rfl
  | 6, _, 3, _ => by kernel_rfl
  | 6, _, 4, _ => by kernel_rfl
  | 6, _, 5, _ => by kernel_rfl
  | 6, _, 6, _ => by kernel_rfl
  | 6, _, 7, _ => by kernel_rfl
  | 7, _, 0, _ => by kernel_rfl
  | 7, _, 1, _ => by kernel_rfl
  | 7, _, 2, _ => by kernel_rfl
  | 7, _, 3, _ => by kernel_rfl
  | 7, _, 4, _ => by kernel_rfl
  | 7, _, 5, _ => by kernel_rfl
  | 7, _, 6, _ => by kernel_rfl
  | 7, _, 7, _ => by kernel_rfl
  | 8, _, 0, _ => by kernel_rfl
  | 8, _, 1, _ => by kernel_rfl
  | 8, _, 2, _ => by kernel_rfl
  | 8, _, 3, _ => by kernel_rfl
  | 8, _, 4, _ => by kernel_rfl
  | 8, _, 5, _ => by kernel_rfl
  | 8, _, 6, _ => by kernel_rfl
  | 8, _, 7, _ => by kernel_rfl
  | 9, _, 0, _ => by kernel_rfl
  | 9, _, 1, _ => by kernel_rfl
  | 9, _, 2, _ => by kernel_rfl
  | 9, _, 3, _ => by kernel_rfl
  | 9, _, 4, _ => by kernel_rfl
  | 9, _, 5, _ => by kernel_rfl
  | 9, _, 6, _ => by kernel_rfl
  | 9, _, 7, _ => by kernel_rfl
  | 10, _, 0, _ => by kernel_rfl
  | 10, _, 1, _ => by kernel_rfl
  | 10, _, 2, _ => by kernel_rfl
  | 10, _, 3, _ => by kernel_rfl
  | 10, _, 4, _ => by kernel_rfl
  | 10, _, 5, _ => by kernel_rfl
  | 10, _, 6, _ => by kernel_rfl
  | 10, _, 7, _ => by kernel_rfl
  | 11, _, 0, _ => by kernel_rfl
  | 11, _, 1, _ => by kernel_rfl
  | 11, _, 2, _ => by kernel_rfl
  | 11, _, 3, _ => by kernel_rfl
  | 11, _, 4, _ => by kernel_rfl
  | 11, _, 5, _ => by kernel_rfl
  | 11, _, 6, _ => by kernel_rfl
  | 11, _, 7, _ => by kernel_rfl
  | 12, _, 0, _ => by kernel_rfl
  | 12, _, 1, _ => by kernel_rfl
  | 12, _, 2, _ => by kernel_rfl
  | 12, _, 3, _ => by kernel_rfl
  | 12, _, 4, _ => by kernel_rfl
  | 12, _, 5, _ => by kernel_rfl
  | 12, _, 6, _ => by kernel_rfl
  | 12, _, 7, _ => by kernel_rfl

theorem S24 {d sm : D} {zv tv bv nuv srv nv : D} (jlo : Nat) (hlo : jlo < 8) : evS cM C GR 60 175 (st 24) (E (some d) (some sm) (some zv) (some good) (some tv) (some bv) (some nuv) (some (Vp 7 jlo)) (some srv) (some nv) (some (.lst .own [rz "operation", rz "operation", rz "table", rz "table", rz "table", rz "table", rz "operation", rz "table", rz "table", rz "table", rz "operation", rz "table", rz "table", rz "operation", rz "table", rz "table"])) (some (.lst .own [ds' "operation", ds' "operation", ds' "table", ds' "table", ds' "table", ds' "table", ds' "operation", ds' "table", ds' "table", ds' "table", ds' "operation", ds' "table", ds' "table", ds' "operation"])) (some (.fn (s "common"))) none none) = .ok (.nx (E (some d) (some sm) (some zv) (some good) (some tv) (some bv) (some nuv) (some (Vp 7 jlo)) (some srv) (some nv) (some (.lst .own [rz "operation", rz "operation", rz "table", rz "table", rz "table", rz "table", rz "operation", rz "table", rz "table", rz "table", rz "operation", rz "table", rz "table", rz "operation", rz "table", rz "table", rz "operation"])) (some (.lst .own [ds' "operation", ds' "operation", ds' "table", ds' "table", ds' "table", ds' "table", ds' "operation", ds' "table", ds' "table", ds' "table", ds' "operation", ds' "table", ds' "table", ds' "operation"])) (some (.fn (s "common"))) none none)) :=
  match jlo, hlo with
  | 0, _ => by kernel_rfl
  | 1, _ => by kernel_rfl
  | 2, _ => by kernel_rfl
  | 3, _ => by kernel_rfl
  | 4, _ => by kernel_rfl
  | 5, _ => by kernel_rfl
  | 6, _ => by kernel_rfl
  | 7, _ => by kernel_rfl

theorem S25 {d sm : D} {tv bv nuv lov nv : D} (jz : Nat) (hz : jz < 13) (jsr : Nat) (hsr : jsr < 8) : evS cM C GR 60 174 (st 25) (E (some d) (some sm) (some (Vz jz)) (some good) (some tv) (some bv) (some nuv) (some lov) (some (Vp 8 jsr)) (some nv) (some (.lst .own [rz "operation", rz "operation", rz "table", rz "table", rz "table", rz "table", rz "operation", rz "table", rz "table", rz "table", rz "operation", rz "table", rz "table", rz "operation", rz "table", rz "table", rz "operation"])) (some (.lst .own [ds' "operation", ds' "operation", ds' "table", ds' "table", ds' "table", ds' "table", ds' "operation", ds' "table", ds' "table", ds' "table", ds' "operation", ds' "table", ds' "table", ds' "operation"])) (some (.fn (s "common"))) none none) = .ok (.nx (E (some d) (some sm) (some (Vz jz)) (some good) (some tv) (some bv) (some nuv) (some lov) (some (Vp 8 jsr)) (some nv) (some (.lst .own [rz "operation", rz "operation", rz "table", rz "table", rz "table", rz "table", rz "operation", rz "table", rz "table", rz "table", rz "operation", rz "table", rz "table", rz "operation", rz "table", rz "table", rz "operation", rz "table"])) (some (.lst .own [ds' "operation", ds' "operation", ds' "table", ds' "table", ds' "table", ds' "table", ds' "operation", ds' "table", ds' "table", ds' "table", ds' "operation", ds' "table", ds' "table", ds' "operation"])) (some (.fn (s "common"))) none none)) :=
  match jz, hz, jsr, hsr with
  | 0, _, 0, _ => by kernel_rfl
  | 0, _, 1, _ => by kernel_rfl
  | 0, _, 2, _ => by kernel_rfl
  | 0, _, 3, _ => by kernel_rfl
  | 0, _, 4, _ => by kernel_rfl
  | 0, _, 5, _ => by kernel_rfl
  | 0, _, 6, _ => by kernel_rfl
  | 0, _, 7, _ => by kernel_rfl
  | 1, _, 0, _ => by kernel_rfl
  | 1, _, 1, _ => by kernel_rfl
  | 1, _, 2, _ => by kernel_rfl
  | 1, _, 3, _ => by kernel_rfl
  | 1, _, 4, _ => by kernel_rfl
  | 1, _, 5, _ => by kernel_rfl
  | 1, _, 6, _ => by kernel_rfl
  | 1, _, 7, _ => by kernel_rfl
  | 2, _, 0, _ => by kernel_rfl
  | 2, _, 1, _ => by kernel_rfl
  | 2, _, 2, _ => by kernel_rfl
  | 2, _, 3, _ => by kernel_rfl
  | 2, _, 4, _ => by kernel_rfl
  | 2, _, 5, _ => by kernel_rfl
  | 2, _, 6, _ => by kernel_rfl
  | 2, _, 7, _ => by kernel_rfl
  | 3, _, 0, _ => by kernel_rfl
  | 3, _, 1, _ => by kernel_rfl
  | 3, _, 2, _ => by kernel_rfl
  | 3, _, 3, _ => by kernel_rfl
  | 3, _, 4, _ => by kernel_rfl
  | 3, _, 5, _ => by kernel_rfl
  | 3, _, 6, _ => by kernel_rfl
  | 3, _, 7, _ => by kernel_rfl
  | 4, _, 0, _ => by kernel_rfl
  | 4, _, 1, _ => by kernel_rfl
  | 4, _, 2, _ => by kernel_rfl
  | 4, _, 3, _ => by kernel_rfl
  | 4, _, 4, _ => by kernel_rfl
  | 4, _, 5, _ => by kernel_rfl
  | 4, _, 6, _ => by kernel_rfl
  | 4, _, 7, _ => by kernel_rfl
  | 5, _, 0, _ => by kernel_rfl
  | 5, _, 1, _ => by kernel_rfl
  | 5, _, 2, _ => by kernel_rfl
  | 5, _, 3, _ => by kernel_rfl
  | 5, _, 4, _ => by kernel_rfl
  | 5, _, 5, _ => by kernel_rfl
  | 5, _, 6, _ => by kernel_rfl
  | 5, _, 7, _ => by kernel_rfl
  | 6, _, 0, _ => by kernel_rfl
  | 6, _, 1, _ => by kernel_rfl
  | 6, _, 2, _ => by kernel_rfl
  | 6, _, 3, _ => by kernel_rfl
  | 6, _, 4, _ => by kernel_rfl
  | 6, _, 5, _ => by kernel_rfl
  | 6, _, 6, _ => by kernel_rfl
  | 6, _, 7, _ => by kernel_rfl
  | 7, _, 0, _ => by kernel_rfl
  | 7, _, 1, _ => by kernel_rfl
  | 7, _, 2, _ => by kernel_rfl
  | 7, _, 3, _ => by kernel_rfl
  | 7, _, 4, _ => by kernel_rfl
  | 7, _, 5, _ => by kernel_rfl
  | 7, _, 6, _ => by kernel_rfl
  | 7, _, 7, _ => by kernel_rfl
  | 8, _, 0, _ => by kernel_rfl
  | 8, _, 1, _ => by kernel_rfl
  | 8, _, 2, _ => by kernel_rfl
  | 8, _, 3, _ => by kernel_rfl
  | 8, _, 4, _ => by kernel_rfl
  | 8, _, 5, _ => by kernel_rfl
  | 8, _, 6, _ => by kernel_rfl
  | 8, _, 7, _ => by kernel_rfl
  | 9, _, 0, _ => by kernel_rfl
  | 9, _, 1, _ => by kernel_rfl
  | 9, _, 2, _ => by kernel_rfl
  | 9, _, 3, _ => by kernel_rfl
  | 9, _, 4, _ => by kernel_rfl
  | 9, _, 5, _ => by kernel_rfl
  | 9, _, 6, _ => by kernel_rfl
  | 9, _, 7, _ => by kernel_rfl
  | 10, _, 0, _ => by kernel_rfl
  | 10, _, 1, _ => by kernel_rfl
  | 10, _, 2, _ => by kernel_rfl
  | 10, _, 3, _ => by kernel_rfl
  | 10, _, 4, _ => by kernel_rfl
  | 10, _, 5, _ => by kernel_rfl
  | 10, _, 6, _ => by kernel_rfl
  | 10, _, 7, _ => by kernel_rfl
  | 11, _, 0, _ => by kernel_rfl
  | 11, _, 1, _ => by kernel_rfl
  | 11, _, 2, _ => by kernel_rfl
  | 11, _, 3, _ => by kernel_rfl
  | 11, _, 4, _ => by kernel_rfl
  | 11, _, 5, _ => by kernel_rfl
  | 11, _, 6, _ => by kernel_rfl
  | 11, _, 7, _ => by kernel_rfl
  | 12, _, 0, _ => by kernel_rfl
  | 12, _, 1, _ => by kernel_rfl
  | 12, _, 2, _ => by kernel_rfl
  | 12, _, 3, _ => by kernel_rfl
  | 12, _, 4, _ => by kernel_rfl
  | 12, _, 5, _ => by kernel_rfl
  | 12, _, 6, _ => by kernel_rfl
  | 12, _, 7, _ => by kernel_rfl

theorem S26 {d sm : D} {zv tv bv nuv lov nv : D} (jsr : Nat) (hsr : jsr < 8) : evS cM C GR 60 173 (st 26) (E (some d) (some sm) (some zv) (some good) (some tv) (some bv) (some nuv) (some lov) (some (Vp 8 jsr)) (some nv) (some (.lst .own [rz "operation", rz "operation", rz "table", rz "table", rz "table", rz "table", rz "operation", rz "table", rz "table", rz "table", rz "operation", rz "table", rz "table", rz "operation", rz "table", rz "table", rz "operation", rz "table"])) (some (.lst .own [ds' "operation", ds' "operation", ds' "table", ds' "table", ds' "table", ds' "table", ds' "operation", ds' "table", ds' "table", ds' "table", ds' "operation", ds' "table", ds' "table", ds' "operation"])) (some (.fn (s "common"))) none none) = .ok (.nx (E (some d) (some sm) (some zv) (some good) (some tv) (some bv) (some nuv) (some lov) (some (Vp 8 jsr)) (some nv) (some (.lst .own [rz "operation", rz "operation", rz "table", rz "table", rz "table", rz "table", rz "operation", rz "table", rz "table", rz "table", rz "operation", rz "table", rz "table", rz "operation", rz "table", rz "table", rz "operation", rz "table", rz "operation"])) (some (.lst .own [ds' "operation", ds' "operation", ds' "table", ds' "table", ds' "table", ds' "table", ds' "operation", ds' "table", ds' "table", ds' "table", ds' "operation", ds' "table", ds' "table", ds' "operation"])) (some (.fn (s "common"))) none none)) :=
  match jsr, hsr with
  | 0, _ => by kernel_rfl
  | 1, _ => by kernel_rfl
  | 2, _ => by kernel_rfl
  | 3, _ => by kernel_rfl
  | 4, _ => by kernel_rfl
  | 5, _ => by kernel_rfl
  | 6, _ => by kernel_rfl
  | 7, _ => by kernel_rfl

theorem S27 {d sm : D} {zv tv bv nuv lov srv nv : D} : evS cM C GR 60 172 (st 27) (E (some d) (some sm) (some zv) (some good) (some tv) (some bv) (some nuv) (some lov) (some srv) (some nv) (some (.lst .own [rz "operation", rz "operation", rz "table", rz "table", rz "table", rz "table", rz "operation", rz "table", rz "table", rz "table", rz "operation", rz "table", rz "table", rz "operation", rz "table", rz "table", rz "operation", rz "table", rz "operation"])) (some (.lst .own [ds' "operation", ds' "operation", ds' "table", ds' "table", ds' "table", ds' "table", ds' "operation", ds' "table", ds' "table", ds' "table", ds' "operation", ds' "table", ds' "table", ds' "operation"])) (some (.fn (s "common"))) none none) = .ok (.nx (E (some d) (some sm) (some zv) (some good) (some tv) (some bv) (some nuv) (some lov) (some srv) (some nv) (some (.lst .own [rz "operation", rz "operation", rz "table", rz "table", rz "table", rz "table", rz "operation", rz "table", rz "table", rz "table", rz "operation", rz "table", rz "table", rz "operation", rz "table", rz "table", rz "operation", rz "table", rz "operation"])) (some (.lst .own [ds' "operation", ds' "operation", ds' "table", ds' "table", ds' "table", ds' "table", ds' "operation", ds' "table", ds' "table", ds' "table", ds' "operation", ds' "table", ds' "table", ds' "operation", ds' "table", ds' "table", ds' "operation", ds' "table", ds' "operation"])) (some (.fn (s "common"))) none none)) := by kernel_rfl
theorem S28 {d sm : D} {zv tv bv nuv lov srv : D} (jn : Nat) (hn : jn < 7) : evS cM C GR 60 171 (st 28) (E (some d) (some sm) (some zv) (some good) (some tv) (some bv) (some nuv) (some lov) (some srv) (some (Vp 9 jn)) (some (.lst .own [rz "operation", rz "operation", rz "table", rz "table", rz "table", rz "table", rz "operation", rz "table", rz "table", rz "table", rz "operation", rz "table", rz "table", rz "operation", rz "table", rz "table", rz "operation", rz "table", rz "operation"])) (some (.lst .own [ds' "operation", ds' "operation", ds' "table", ds' "table", ds' "table", ds' "table", ds' "operation", ds' "table", ds' "table", ds' "table", ds' "operation", ds' "table", ds' "table", ds' "operation", ds' "table", ds' "table", ds' "operation", ds' "table", ds' "operation"])) (some (.fn (s "common"))) none none) = .ok (.nx (E (some d) (some sm) (some zv) (some good) (some tv) (some bv) (some nuv) (some lov) (some srv) (some (Vp 9 jn)) (some (.lst .own [rz "operation", rz "operation", rz "table", rz "table", rz "table", rz "table", rz "operation", rz "table", rz "table", rz "table", rz "operation", rz "table", rz "table", rz "operation", rz "table", rz "table", rz "operation", rz "table", rz "operation", rn (Vp 9 jn), rn (Vp 9 jn)])) (some (.lst .own [ds' "operation", ds' "operation", ds' "table", ds' "table", ds' "table", ds' "table", ds' "operation", ds' "table", ds' "table", ds' "table", ds' "operation", ds' "table", ds' "table", ds' "operation", ds' "table", ds' "table", ds' "operation", ds' "table", ds' "operation", dn (Vp 9 jn), dn (Vp 9 jn)])) (some (.fn (s "whole_zone"))) none none)) :=
  match jn, hn with
  | 0, _ => by kernel_rfl
  | 1, _ => by kernel_rfl
  | 2, _ => by kernel_rfl
  | 3, _ => by kernel_rfl
  | 4, _ => by kernel_rfl
  | 5, _ => by kernel_rfl
  | 6, _ => by kernel_rfl

theorem S29 {d sm zv tv bv nuv lov srv : D} (jn : Nat) (hn : jn < 7) : evS cM C GR 60 170 (st 29) (E (some d) (some sm) (some zv) (some good) (some tv) (some bv) (some nuv) (some lov) (some srv) (some (Vp 9 jn)) (some (.lst .own [rz "operation", rz "operation", rz "table", rz "table", rz "table", rz "table", rz "operation", rz "table", rz "table", rz "table", rz "operation", rz "table", rz "table", rz "operation", rz "table", rz "table", rz "operation", rz "table", rz "operation", rn (Vp 9 jn), rn (Vp 9 jn)])) (some (.lst .own [ds' "operation", ds' "operation", ds' "table", ds' "table", ds' "table", ds' "table", ds' "operation", ds' "table", ds' "table", ds' "table", ds' "operation", ds' "table", ds' "table", ds' "operation", ds' "table", ds' "table", ds' "operation", ds' "table", ds' "operation", dn (Vp 9 jn), dn (Vp 9 jn)])) (some (.fn (s "whole_zone"))) none none) = .ok (.nx (E (some d) (some sm) (some zv) (some good) (some tv) (some bv) (some nuv) (some lov) (some srv) (some (Vp 9 jn)) (some (.lst .own [rz "operation", rz "operation", rz "table", rz "table", rz "table", rz "table", rz "operation", rz "table", rz "table", rz "table", rz "operation", rz "table", rz "table", rz "operation", rz "table", rz "table", rz "operation", rz "table", rz "operation", rn (Vp 9 jn), rn (Vp 9 jn)])) (some (.lst .fro [ds' "operation", ds' "operation", ds' "table", ds' "table", ds' "table", ds' "table", ds' "operation", ds' "table", ds' "table", ds' "table", ds' "operation", ds' "table", ds' "table", ds' "operation", ds' "table", ds' "table", ds' "operation", ds' "table", ds' "operation", dn (Vp 9 jn), dn (Vp 9 jn)])) (some (.fn (s "whole_zone"))) (some (.lst .own [rz "operation", rz "operation", rz "table", rz "table", rz "table", rz "table", rz "operation", rz "table", rz "table", rz "table", rz "operation", rz "table", rz "table", rz "operation", rz "table", rz "table", rz "operation", rz "table", rz "operation", rn (Vp 9 jn), rn (Vp 9 jn)])) none)) :=
  match jn, hn with
  | 0, _ => by kernel_rfl
  | 1, _ => by kernel_rfl
  | 2, _ => by kernel_rfl
  | 3, _ => by kernel_rfl
  | 4, _ => by kernel_rfl
  | 5, _ => by kernel_rfl
  | 6, _ => by kernel_rfl

def toldL (jn : Nat) : List D := [rz "operation", rz "operation", rz "table", rz "table", rz "table", rz "table", rz "operation", rz "table", rz "table", rz "table", rz "operation", rz "table", rz "table", rz "operation", rz "table", rz "table", rz "operation", rz "table", rz "operation", rn (Vp 9 jn), rn (Vp 9 jn)]
def pyT (jn : Nat) : List PyData := (toPyL (toldL jn)).getD []
theorem py_ok (jn : Nat) (hn : jn < 7) : toPyL (toldL jn) = some (pyT jn) ∧ ((PyData.list (pyT jn)).showable && decide ((PyData.list (pyT jn)).depth ≤ 64)) = true ∧ ((pyT jn).map PyData.shown).all okT = true ∧ decide ((pyT jn).length ≤ 10000) = true :=
  match jn, hn with
  | 0, _ => ⟨by kernel_rfl, by kernel_rfl, by kernel_rfl, by kernel_rfl⟩
  | 1, _ => ⟨by kernel_rfl, by kernel_rfl, by kernel_rfl, by kernel_rfl⟩
  | 2, _ => ⟨by kernel_rfl, by kernel_rfl, by kernel_rfl, by kernel_rfl⟩
  | 3, _ => ⟨by kernel_rfl, by kernel_rfl, by kernel_rfl, by kernel_rfl⟩
  | 4, _ => ⟨by kernel_rfl, by kernel_rfl, by kernel_rfl, by kernel_rfl⟩
  | 5, _ => ⟨by kernel_rfl, by kernel_rfl, by kernel_rfl, by kernel_rfl⟩
  | 6, _ => ⟨by kernel_rfl, by kernel_rfl, by kernel_rfl, by kernel_rfl⟩

theorem S30 {d sm zv tv bv nuv lov srv : D} (jn : Nat) (hn : jn < 7) : evS cM C GR 60 169 (st 30) (E (some d) (some sm) (some zv) (some good) (some tv) (some bv) (some nuv) (some lov) (some srv) (some (Vp 9 jn)) (some (.lst .own [rz "operation", rz "operation", rz "table", rz "table", rz "table", rz "table", rz "operation", rz "table", rz "table", rz "table", rz "operation", rz "table", rz "table", rz "operation", rz "table", rz "table", rz "operation", rz "table", rz "operation", rn (Vp 9 jn), rn (Vp 9 jn)])) (some (.lst .fro [ds' "operation", ds' "operation", ds' "table", ds' "table", ds' "table", ds' "table", ds' "operation", ds' "table", ds' "table", ds' "table", ds' "operation", ds' "table", ds' "table", ds' "operation", ds' "table", ds' "table", ds' "operation", ds' "table", ds' "operation", dn (Vp 9 jn), dn (Vp 9 jn)])) (some (.fn (s "whole_zone"))) (some (.lst .own [rz "operation", rz "operation", rz "table", rz "table", rz "table", rz "table", rz "operation", rz "table", rz "table", rz "table", rz "operation", rz "table", rz "table", rz "operation", rz "table", rz "table", rz "operation", rz "table", rz "operation", rn (Vp 9 jn), rn (Vp 9 jn)])) none) = .ok (.rt (.bl true) (E (some d) (some sm) (some zv) (some good) (some tv) (some bv) (some nuv) (some lov) (some srv) (some (Vp 9 jn)) (some (.lst .own [rz "operation", rz "operation", rz "table", rz "table", rz "table", rz "table", rz "operation", rz "table", rz "table", rz "table", rz "operation", rz "table", rz "table", rz "operation", rz "table", rz "table", rz "operation", rz "table", rz "operation", rn (Vp 9 jn), rn (Vp 9 jn)])) (some (.lst .fro [ds' "operation", ds' "operation", ds' "table", ds' "table", ds' "table", ds' "table", ds' "operation", ds' "table", ds' "table", ds' "table", ds' "operation", ds' "table", ds' "table", ds' "operation", ds' "table", ds' "table", ds' "operation", ds' "table", ds' "operation", dn (Vp 9 jn), dn (Vp 9 jn)])) (some (.fn (s "whole_zone"))) (some (.lst .own [rz "operation", rz "operation", rz "table", rz "table", rz "table", rz "table", rz "operation", rz "table", rz "table", rz "table", rz "operation", rz "table", rz "table", rz "operation", rz "table", rz "table", rz "operation", rz "table", rz "operation", rn (Vp 9 jn), rn (Vp 9 jn)])) none)) := by
  obtain ⟨h1, h2, h3, h4⟩ := py_ok jn hn
  obtain ⟨r, h4⟩ := repr_list (m := .own) h1 h2 h3 (of_decide_eq_true h4)
  exact evS_ret (n := 168) (evE_cmp1 (n := 59) (va := .val (.str (PyData.list (pyT jn)).shown)) (vb := .val (.str (PyData.list (pyT jn)).shown)) (e1 := (E (some d) (some sm) (some zv) (some good) (some tv) (some bv) (some nuv) (some lov) (some srv) (some (Vp 9 jn)) (some (.lst .own [rz "operation", rz "operation", rz "table", rz "table", rz "table", rz "table", rz "operation", rz "table", rz "table", rz "table", rz "operation", rz "table", rz "table", rz "operation", rz "table", rz "table", rz "operation", rz "table", rz "operation", rn (Vp 9 jn), rn (Vp 9 jn)])) (some (.lst .fro [ds' "operation", ds' "operation", ds' "table", ds' "table", ds' "table", ds' "table", ds' "operation", ds' "table", ds' "table", ds' "table", ds' "operation", ds' "table", ds' "table", ds' "operation", ds' "table", ds' "table", ds' "operation", ds' "table", ds' "operation", dn (Vp 9 jn), dn (Vp 9 jn)])) (some (.fn (s "whole_zone"))) (some (.lst .own [rz "operation", rz "operation", rz "table", rz "table", rz "table", rz "table", rz "operation", rz "table", rz "table", rz "table", rz "operation", rz "table", rz "table", rz "operation", rz "table", rz "table", rz "operation", rz "table", rz "operation", rn (Vp 9 jn), rn (Vp 9 jn)])) none)) (by kernel_rfl)
    (evO_of (evE_blt1 (f := "repr") (b := .repr) (v := .han 10 []) (d := .lst .own (toldL jn)) (n := 57) (by kernel_rfl) (fun _ _ _ _ z => nomatch z) (by kernel_rfl) (by kernel_rfl) (by kernel_rfl) (by kernel_rfl) (by kernel_rfl) (by kernel_rfl) (by kernel_rfl) r))
    (evO_of (evE_blt1 (f := "repr") (b := .repr) (v := .han 13 []) (d := .lst .own (toldL jn)) (n := 57) (by kernel_rfl) (fun _ _ _ _ z => nomatch z) (by kernel_rfl) (by kernel_rfl) (by kernel_rfl) (by kernel_rfl) (by kernel_rfl) (by kernel_rfl) (by kernel_rfl) r)) rfl rfl (eq_str h4))

end K23

set_option Elab.async false
set_option linter.all false
set_option maxRecDepth 100000
set_option maxHeartbeats 4000000
namespace K23
open PySem L2 Ev
local macro_rules | `(tactic| walk_at "go law") => `(tactic| (refine wp_lev (f := d_law) (by rfl) rfl (by rfl) ?_; rw [en_law]; have hb : defBody d_law.st = defBody d_law.st := rfl; (conv at hb => (rhs; whnf)); rw [hb]; clear hb))
local macro_rules | `(tactic| walk_at "ev law") => `(tactic| simp (dsimp := false) (decide := true) only [↓bin_eq, orT_s, orT_n, ↓to_bnd, wp_ok, wp_noErr, noErr_ok, bnd_assoc, bnd_ok, bnd_st, ↓to_lcF, ↓to_forF, ↓to_whileF, b_addT, b_addLo, b_addLf, pl_nil, pl_cons, plO_s, plO_n, c_hanc, evSs_seq, evSs_end, seq_nx, seq_rt, seq_bk, seq_ct, seq_bnd, bnd_seq, seq_for, seq_while, fin_nx, fin_rt, asgNs_nil, asgNs_cons, asgEa_nil, asgEa_nam, asgEa_sub, isOL_own, pp_0, List.cons_append, take_hn, ow_dfro, ow_dext, takeF_v, takeF_h, free_nil, free_cons, wipe_nil, wipe_cons, back_eq, patch_nil, patch_cons, li_3, li_4, li_5, li_6, li_7, frz_fro, frz_ext, frz_own, frz_non, frz_bl, frz_str, evS, ownOf, List.filterMap_cons, List.filterMap_nil, List.map_cons, List.map_nil, Option.map_some, Option.map_none, asgT, asgI, pp_1, List.nil_append, lenOk2, frzL_nil, frzL_cons, frz_tup, Int.mul_one, plainIx, intE, itE_t, itE_l, item_0, item_1, item_2, li_0, li_1, li_2, asgXs, takes_nil, takes_cons, swap, namesOn, headLine, Expr.pos, ed2, ed3, foldedForSure, constantsAlone, List.all_cons, List.all_nil, List.length_cons, List.length_nil, Nat.reduceAdd, Nat.reduceBEq, Nat.reduceBNe, Bool.or_true, Bool.or_false, Bool.true_or, Bool.false_or, beq_self_eq_true, bne_self_eq_false, List.set_cons_zero, List.set_cons_succ, evT, evTs, evE, evO, evA, evB, evP, evF, evI, evW, ofO_s, c_val, c_han, g_0, g_s, sole_v, sole_h, take_v, ow_non, ow_bl, ow_int, ow_str, ow_tup, ow_own, ow_fro, ow_ext, ow_ty, ow_fn, ow_dic, b_add, b_sub, b_mod, b_div, b_mul, n_non, n_bl, n_int, n_str, n_tup, n_lst, n_dic, m_is, m_isnot, m_lt, m_le, m_gt, m_ge, m_eq, m_ne, q_int, q_non1, q_non2, q_bl, t_bl, t_int, t_non, t_tup, t_lst, s_and, s_or, okC_lt, okC_le, okC_gt, okC_ge, okC_eq, okC_ne, okC_is, okC_isn, back_ok, at_sub, bnd_er, gOf_N, gOf_bor, sub_N, name_eq, asgN_eq, call_eq, lend_nil, lend_val, lend_han, gb_nil, gb_none, gb_some, noStar, Bool.false_eq_true, if_false, if_true, Bool.not_true, Bool.not_false, outsOf, decide_true, decide_false, Bool.true_and, Bool.and_true, Bool.false_and, Bool.and_false, reduceCtorEq, Option.map_some, frz, frz_int, contents_nil, contents_cons, bl_int, bl_bl, bl_lenT, bl_lenL, bl_abs, bl_max, bl_min, bl_listT, bl_listL, bl_tupT, bl_tupL, bl_any, bl_all, is_int, is_ty, is_non_int, is_non_bool, is_non_tuple, is_non_list, is_non_str, is_non_dict, is_bl_int, is_bl_bool, is_bl_tuple, is_bl_list, is_bl_str, is_bl_dict, is_int_bool, is_int_tuple, is_int_list, is_int_str, is_int_dict, is_str_int, is_str_bool, is_str_tuple, is_str_list, is_str_str, is_str_dict, is_tup_int, is_tup_bool, is_tup_tuple, is_tup_list, is_tup_str, is_tup_dict, is_lst_int, is_lst_bool, is_lst_tuple, is_lst_list, is_lst_str, is_lst_dict, is_dic_int, is_dic_bool, is_dic_tuple, is_dic_list, is_dic_str, is_dic_dict, l_law_spot, v_law_spot, o_law_spot, l_law_six, v_law_six, o_law_six, l_law_range, w_law_range, l_law_dice, v_law_dice, o_law_dice, l_law_turn, v_law_turn, o_law_turn, l_law_zero_zone, w_law_zero_zone, l_law_max, w_law_max, l_law__law_dice, w_law__law_dice, l_law_script, v_law_script, o_law_script, l_law_min, w_law_min, l_law_len, w_law_len, l_law_kept_by, w_law_kept_by, l_law__law_right, w_law__law_right, a_law, k__law_dice, g__law_dice, r__law_dice, e__law_dice, k__law_right, g__law_right, r__law_right, e__law_right, k_kept_by, g_kept_by, r_kept_by, e_kept_by, k_len, g_len, f_len, b_len, r_len, e_len, k_max, g_max, f_max, b_max, r_max, e_max, k_min, g_min, f_min, b_min, r_min, e_min, k_range, g_range, f_range, r_range, e_range, k_zero_zone, g_zero_zone, r_zero_zone, e_zero_zone, *])
theorem lenP5 : (XP 5).length = 6 := by kernel_rfl
theorem lenP6 : (XP 6).length = 8 := by kernel_rfl
theorem lenP7 : (XP 7).length = 8 := by kernel_rfl
theorem lenP8 : (XP 8).length = 8 := by kernel_rfl
theorem lenP9 : (XP 9).length = 7 := by kernel_rfl
theorem right_def {m : Nat} {a b c : Int} (h : Dice m a b c) (hm : m + 10 < 2 ^ 59) : ∃ a' b' c', Dice (m + 7) a' b' c' ∧ lev cM cT 29 "_law_right" [dI a b c] = .ok (.bl true, [some (dI a' b' c')]) := by
  obtain ⟨j1, a1, b1, c1, d1, l1, h1, p1⟩ := pick_O h (by omega) 25 XZ (by rw [lenZ]; decide) (by rw [lenZ]; decide)
  obtain ⟨j2, a2, b2, c2, d2, l2, h2, p2⟩ := pick_O h1 (by omega) 25 XT (by rw [lenT]; decide) (by rw [lenT]; decide)
  obtain ⟨j3, a3, b3, c3, l3, h3, p3⟩ := pick_L h2 (by omega) 25 (XP 5) (by rw [lenP5]; decide) (by rw [lenP5]; decide)
  obtain ⟨j4, a4, b4, c4, l4, h4, p4⟩ := pick_L h3 (by omega) 25 (XP 6) (by rw [lenP6]; decide) (by rw [lenP6]; decide)
  obtain ⟨j5, a5, b5, c5, l5, h5, p5⟩ := pick_L h4 (by omega) 25 (XP 7) (by rw [lenP7]; decide) (by rw [lenP7]; decide)
  obtain ⟨j6, a6, b6, c6, l6, h6, p6⟩ := pick_L h5 (by omega) 25 (XP 8) (by rw [lenP8]; decide) (by rw [lenP8]; decide)
  obtain ⟨j7, a7, b7, c7, l7, h7, p7⟩ := pick_L h6 (by omega) 25 (XP 9) (by rw [lenP9]; decide) (by rw [lenP9]; decide)
  rw [lenZ] at l1
  rw [lenT] at l2
  rw [lenP5] at l3
  rw [lenP6] at l4
  rw [lenP7] at l5
  rw [lenP8] at l6
  rw [lenP9] at l7
  suffices hw : Wp (lev cM cT (28 + 1) "_law_right" [dI a b c]) (fun r => r = (.bl true, [some (dI a7 b7 c7)])) from ⟨_, _, _, h7, wp_eq hw⟩
  refine wp_lev (f := d__law_right) (by rfl) rfl (by rfl) ?_
  rw [body_eq]
  show Wp ((evSs cM C GR 60 200 _ (E (some (dI a b c)) none none none none none none none none none none none none none none)).bind _) _
  refine seqW (S0 _) ?_
  refine seqW (S1 _) ?_
  refine seqW (S2 p1) ?_
  refine seqW (S3 _ _ _) ?_
  refine seqW (S4 p2) ?_
  refine seqW (S5 p3) ?_
  refine seqW (S6 p4) ?_
  refine seqW (S7 p5) ?_
  refine seqW (S8 p6) ?_
  refine seqW (S9 p7) ?_
  refine seqW S10 ?_
  refine seqW (S11 j3 l3) ?_
  refine seqW (S12 j3 l3) ?_
  refine seqW S13 ?_
  refine seqW (S14 j2 l2) ?_
  refine seqW (S15 j2 l2) ?_
  refine seqW S16 ?_
  refine seqW (S17 j1 l1 j4 l4) ?_
  refine seqW (S18 j4 l4) ?_
  refine seqW (S19 j1 l1) ?_
  refine seqW S20 ?_
  refine seqW (S21 j1 l1) ?_
  refine seqW (S22 j1 l1) ?_
  refine seqW (S23 j1 l1 j5 l5) ?_
  refine seqW (S24 j5 l5) ?_
  refine seqW (S25 j1 l1 j6 l6) ?_
  refine seqW (S26 j6 l6) ?_
  refine seqW S27 ?_
  refine seqW (S28 j7 l7) ?_
  refine seqW (S29 j7 l7) ?_
  refine retW (S30 j7 l7) ?_
  exact ⟨_, rfl, rfl⟩
def isT : R Fl → Bool
  | .ok (.rt (.bl true) _) => true
  | _ => false
theorem isT_ok {r : R Fl} (h : isT r = true) : ∃ e, r = .ok (.rt (.bl true) e) := by
  cases r with
  | ok fl => cases fl with
    | rt d e => cases d with
      | bl b => cases b with
        | true => exact ⟨e, rfl⟩
        | false => cases h
      | _ => cases h
    | _ => cases h
  | _ => cases h
theorem tail_ok (ns : List Int) (o1 o2 o3 : Option D) : isT (evSs cM (levC cM cT 29) (gOf d_law []) 60 199 ((defBody d_law.st).drop 1) [some (.lst .ext (ns.map .int)), o1, o2, o3, none]) = true := by kernel_rfl
end K23

set_option Elab.async false
set_option linter.all false
set_option maxRecDepth 100000
set_option maxHeartbeats 4000000
namespace K23
open PySem L2 Ev
local macro_rules | `(tactic| walk_at "go law") => `(tactic| (refine wp_lev (f := d_law) (by rfl) rfl (by rfl) ?_; rw [en_law]; have hb : defBody d_law.st = defBody d_law.st := rfl; (conv at hb => (rhs; whnf)); rw [hb]; clear hb))
local macro_rules | `(tactic| walk_at "ev law") => `(tactic| simp (dsimp := false) (decide := true) only [↓bin_eq, orT_s, orT_n, ↓to_bnd, wp_ok, wp_noErr, noErr_ok, bnd_assoc, bnd_ok, bnd_st, ↓to_lcF, ↓to_forF, ↓to_whileF, b_addT, b_addLo, b_addLf, pl_nil, pl_cons, plO_s, plO_n, c_hanc, evSs_seq, evSs_end, seq_nx, seq_rt, seq_bk, seq_ct, seq_bnd, bnd_seq, seq_for, seq_while, fin_nx, fin_rt, asgNs_nil, asgNs_cons, asgEa_nil, asgEa_nam, asgEa_sub, isOL_own, pp_0, List.cons_append, take_hn, ow_dfro, ow_dext, takeF_v, takeF_h, free_nil, free_cons, wipe_nil, wipe_cons, back_eq, patch_nil, patch_cons, li_3, li_4, li_5, li_6, li_7, frz_fro, frz_ext, frz_own, frz_non, frz_bl, frz_str, evS, ownOf, List.filterMap_cons, List.filterMap_nil, List.map_cons, List.map_nil, Option.map_some, Option.map_none, asgT, asgI, pp_1, List.nil_append, lenOk2, frzL_nil, frzL_cons, frz_tup, Int.mul_one, plainIx, intE, itE_t, itE_l, item_0, item_1, item_2, li_0, li_1, li_2, asgXs, takes_nil, takes_cons, swap, namesOn, headLine, Expr.pos, ed2, ed3, foldedForSure, constantsAlone, List.all_cons, List.all_nil, List.length_cons, List.length_nil, Nat.reduceAdd, Nat.reduceBEq, Nat.reduceBNe, Bool.or_true, Bool.or_false, Bool.true_or, Bool.false_or, beq_self_eq_true, bne_self_eq_false, List.set_cons_zero, List.set_cons_succ, evT, evTs, evE, evO, evA, evB, evP, evF, evI, evW, ofO_s, c_val, c_han, g_0, g_s, sole_v, sole_h, take_v, ow_non, ow_bl, ow_int, ow_str, ow_tup, ow_own, ow_fro, ow_ext, ow_ty, ow_fn, ow_dic, b_add, b_sub, b_mod, b_div, b_mul, n_non, n_bl, n_int, n_str, n_tup, n_lst, n_dic, m_is, m_isnot, m_lt, m_le, m_gt, m_ge, m_eq, m_ne, q_int, q_non1, q_non2, q_bl, t_bl, t_int, t_non, t_tup, t_lst, s_and, s_or, okC_lt, okC_le, okC_gt, okC_ge, okC_eq, okC_ne, okC_is, okC_isn, back_ok, at_sub, bnd_er, gOf_N, gOf_bor, sub_N, name_eq, asgN_eq, call_eq, lend_nil, lend_val, lend_han, gb_nil, gb_none, gb_some, noStar, Bool.false_eq_true, if_false, if_true, Bool.not_true, Bool.not_false, outsOf, decide_true, decide_false, Bool.true_and, Bool.and_true, Bool.false_and, Bool.and_false, reduceCtorEq, Option.map_some, frz, frz_int, contents_nil, contents_cons, bl_int, bl_bl, bl_lenT, bl_lenL, bl_abs, bl_max, bl_min, bl_listT, bl_listL, bl_tupT, bl_tupL, bl_any, bl_all, is_int, is_ty, is_non_int, is_non_bool, is_non_tuple, is_non_list, is_non_str, is_non_dict, is_bl_int, is_bl_bool, is_bl_tuple, is_bl_list, is_bl_str, is_bl_dict, is_int_bool, is_int_tuple, is_int_list, is_int_str, is_int_dict, is_str_int, is_str_bool, is_str_tuple, is_str_list, is_str_str, is_str_dict, is_tup_int, is_tup_bool, is_tup_tuple, is_tup_list, is_tup_str, is_tup_dict, is_lst_int, is_lst_bool, is_lst_tuple, is_lst_list, is_lst_str, is_lst_dict, is_dic_int, is_dic_bool, is_dic_tuple, is_dic_list, is_dic_str, is_dic_dict, l_law_spot, v_law_spot, o_law_spot, l_law_six, v_law_six, o_law_six, l_law_range, w_law_range, l_law_dice, v_law_dice, o_law_dice, l_law_turn, v_law_turn, o_law_turn, l_law_zero_zone, w_law_zero_zone, l_law_max, w_law_max, l_law__law_dice, w_law__law_dice, l_law_script, v_law_script, o_law_script, l_law_min, w_law_min, l_law_len, w_law_len, l_law_kept_by, w_law_kept_by, l_law__law_right, w_law__law_right, a_law, k__law_dice, g__law_dice, r__law_dice, e__law_dice, k__law_right, g__law_right, r__law_right, e__law_right, k_kept_by, g_kept_by, r_kept_by, e_kept_by, k_len, g_len, f_len, b_len, r_len, e_len, k_max, g_max, f_max, b_max, r_max, e_max, k_min, g_min, f_min, b_min, r_min, e_min, k_range, g_range, f_range, r_range, e_range, k_zero_zone, g_zero_zone, r_zero_zone, e_zero_zone, *])
theorem rgOk_nat {n : Nat} (h : n < 2 ^ 61) : rgOk (n : Int) = true := by
  unfold rgOk
  simp only [Bool.and_eq_true, decide_eq_true_eq]
  omega
theorem rg_get {i : Int} {n j : Nat} {d : D} (h : (rgD i n)[j]? = some d) : d = .int (i + j) ∧ j < n := by
  have h2 := (List.getElem?_eq_some_iff.mp h).1
  letI : TabsC := ⟨[]⟩
  exact ⟨rgD_at h, by rw [rgD_length] at h2; exact h2⟩
theorem law_math (ns : List Int) (hn : ns.length ≤ 63) (_hb : ∀ z ∈ ns, Builtin.Int.intBits z ≤ 1048576) : ∃ outs, lev cM cT 30 "law" [.lst .ext (ns.map .int)] = .ok (.bl true, outs) := by
  suffices hw : Wp (lev cM cT (29 + 1) "law" [.lst .ext (ns.map .int)]) (fun y => ∃ o, y = (.bl true, o)) by
    obtain ⟨y, e, o, rfl⟩ := hw
    exact ⟨o, e⟩
  have hb : borOf [D.lst .ext (ns.map .int)] = [] := rfl
  have hlen : ((ns.map D.int).length : Int) = (ns.length : Int) := by simp
  obtain ⟨N, hN, hN4⟩ : ∃ N : Nat, (if (if (ns.length : Int) < 4 then (ns.length : Int) else 4) > 1 then (if (ns.length : Int) < 4 then (ns.length : Int) else 4) else 1) = (N : Int) ∧ N ≤ 4 := by
    by_cases h1 : (ns.length : Int) < 4
    · by_cases h2 : (ns.length : Int) > 1
      · exact ⟨ns.length, by simp only [h1, h2, if_true], by omega⟩
      · exact ⟨1, by simp only [h1, h2, if_true, if_false]; rfl, by omega⟩
    · exact ⟨4, by simp only [h1, if_false]; rfl, by omega⟩
  have rg := rgOk_nat (n := N) (by omega)
  clear _hb
  walk_at "go law"
  simp only [hb]
  clear hb
  walk_at "ev law"
  refine for_wp (fun j e => ∃ o1 o2 o3, e = [some (.lst .ext (ns.map .int)), o1, o2, o3, none]) (fun _ _ => False) ⟨_, _, _, rfl⟩ ?_ ?_ (fun _ _ z => z.elim)
  · rintro j d e hj ⟨o1, o2, o3, rfl⟩
    obtain ⟨rfl, hjN⟩ := rg_get hj
    have hj4 : j < 4 := by
      have : j < N := by simpa using hjN
      omega
    obtain ⟨x, y, h1⟩ := dice_of 28 ns j (by omega)
    have dc : Dice 0 x y 0 := by unfold Dice; decide
    have od : ∀ a b c, owned (dI a b c) = true := fun _ _ _ => rfl
    have rg3 : rgOk 3 = true := by decide
    have z0 : (0 : Int) + (j : Int) = (j : Int) := by omega
    clear hj hN rg hlen
    walk_at "ev law"
    refine for_wp (fun t e => ∃ a b c o3, e = [some (.lst .ext (ns.map .int)), some (.int j), some (dI a b c), o3, none] ∧ Dice (10 * t) a b c) (fun _ _ => False) ⟨_, _, _, _, rfl, dc⟩ ?_ ?_ (fun _ _ z => z.elim)
    · rintro t d e hj ⟨a, b, c, o3, rfl, dc⟩
      obtain ⟨rfl, ht⟩ := rg_get hj
      have ht4 : t < 3 := by
        have : (Int.toNat 3) = 3 := rfl
        omega
      obtain ⟨a', b', c', dc2, h2⟩ := right_def dc (by omega)
      have fin : Dice (10 * (t + 1)) a' b' c' := by unfold Dice at dc2 ⊢; omega
      clear hj dc dc2 h1
      walk_at "ev law"
      exact ⟨_, _, _, _, rfl, fin⟩
    · rintro e ⟨a, b, c, o3, rfl, dc⟩
      walk_at "ev law"
      exact ⟨_, _, _, rfl⟩
  · rintro e ⟨o1, o2, o3, rfl⟩
    clear hN rg hlen hN4 hn
    simp (dsimp := false) only [seq_nx]
    obtain ⟨e, he⟩ := isT_ok (r := evSs cM (levC cM cT 29) (gOf d_law []) 60 199 ((defBody d_law.st).drop 1) [some (.lst .ext (ns.map .int)), o1, o2, o3, none]) (tail_ok ns o1 o2 o3)
    exact (show Wp ((evSs cM (levC cM cT 29) (gOf d_law []) 60 199 ((defBody d_law.st).drop 1) [some (.lst .ext (ns.map .int)), o1, o2, o3, none]).bind (fin [D.lst .ext (ns.map D.int)])) (fun y => ∃ o, y = (.bl true, o)) from by
      rw [he]
      exact ⟨_, rfl, _, rfl⟩)
end K23

set_option Elab.async false
set_option linter.all false
set_option maxRecDepth 100000
open PySem PySem.W PyProof.Rows
theorem K23.exF_mk {K : PySem.W.Frag} {h : Heap} {mg : PySem.Str → Option Value} {c f : PySem.Str} {C : Addr} (X : K.In h) (q : mg c = some (.ref C)) (a : L2.xfB K C = true) (b : PySem.W.findIn K (.ref C) f = some none) : Ev.ExF K mg c f := ⟨C, q, L2.xfB_ok a, b⟩
set_option maxHeartbeats 0 in
theorem PySem.Challenge.cw_allclocks_k23_errors_of_tables_holds : PySem.Challenge.rw_allclocks_k23_errors_of_tables.Holds := by
  w_on; o_law; k_head; (case hw => w_witness2)
  k_fill
  refine Ev.walk_law (M := K23.cM) (T := K23.cT) (n := 63) (k := 30) rfl (by decide) rfl ⟨rfl, by decide, by decide⟩ rfl (fun w h Y => PySem.W.km_in_of Y) ?F K23.law_math
  case F =>
    intro w mg h KX G TF
    have t0 := Ev.csOk_mk (x := K23.s "_law_right") (nm := K23.s "_law_right" ++ ".<locals>." ++ Ev.lamN) TF ⟨_, rfl⟩ (by k_is) (by k_is) (by rfl) (by k_is) (by rfl) (by kernel_rfl)
    refine ⟨[_], List.forall_mem_cons.mpr ⟨t0, fun p hp => nomatch hp⟩, _, Ev.bind_mk (f := K23.s "law") KX K23.s_law (by k_is) (by k_is), fun base TB => ?_⟩
    letI : Ev.TabsC := Ev.tabsI (Ev.csOf TB)
    have h0 := Ev.dfOk_mk (base := base) (f := K23.s "is_whole") KX G K23.s_is_whole (by k_is) (by k_is) (by k_is) (by k_is) (fun z => nomatch z)
    have h1 := Ev.dfOk_mk (base := base) (f := K23.s "is_short") KX G K23.s_is_short (by k_is) (by k_is) (by k_is) (by k_is) (fun z => nomatch z)
    have h2 := Ev.dfOk_mk (base := base) (f := K23.s "is_within") KX G K23.s_is_within (by k_is) (by k_is) (by k_is) (by k_is) (fun z => nomatch z)
    have h3 := Ev.dfOk_mk (base := base) (f := K23.s "is_pair") KX G K23.s_is_pair (by k_is) (by k_is) (by k_is) (by k_is) (fun z => nomatch z)
    have h4 := Ev.dfOk_mk (base := base) (f := K23.s "is_ascending") KX G K23.s_is_ascending (by k_is) (by k_is) (by k_is) (by k_is) (fun z => nomatch z)
    have h5 := Ev.dfOk_mk (base := base) (f := K23.s "share") KX G K23.s_share (by k_is) (by k_is) (by k_is) (by k_is) (fun z => nomatch z)
    have h6 := Ev.dfOk_mk (base := base) (f := K23.s "minus") KX G K23.s_minus (by k_is) (by k_is) (by k_is) (by k_is) (fun z => nomatch z)
    have h7 := Ev.dfOk_mk (base := base) (f := K23.s "is_share") KX G K23.s_is_share (by k_is) (by k_is) (by k_is) (by k_is) (fun z => nomatch z)
    have h8 := Ev.dfOk_mk (base := base) (f := K23.s "is_short_share") KX G K23.s_is_short_share (by k_is) (by k_is) (by k_is) (by k_is) (fun z => nomatch z)
    have h9 := Ev.dfOk_mk (base := base) (f := K23.s "is_time") KX G K23.s_is_time (by k_is) (by k_is) (by k_is) (by k_is) (fun z => nomatch z)
    have h10 := Ev.dfOk_mk (base := base) (f := K23.s "is_stretch") KX G K23.s_is_stretch (by k_is) (by k_is) (by k_is) (by k_is) (fun z => nomatch z)
    have h11 := Ev.dfOk_mk (base := base) (f := K23.s "is_bound") KX G K23.s_is_bound (by k_is) (by k_is) (by k_is) (by k_is) (fun z => nomatch z)
    have h12 := Ev.dfOk_mk (base := base) (f := K23.s "add_bounds") KX G K23.s_add_bounds (by k_is) (by k_is) (by k_is) (by k_is) (fun z => nomatch z)
    have h13 := Ev.dfOk_mk (base := base) (f := K23.s "add_bounds_marks") KX G K23.s_add_bounds_marks (by k_is) (by k_is) (by k_is) (by k_is) (fun z => nomatch z)
    have h14 := Ev.dfOk_mk (base := base) (f := K23.s "is_tighter") KX G K23.s_is_tighter (by k_is) (by k_is) (by k_is) (by k_is) (fun z => nomatch z)
    have h15 := Ev.dfOk_mk (base := base) (f := K23.s "tight") KX G K23.s_tight (by k_is) (by k_is) (by k_is) (by k_is) (fun z => nomatch z)
    have h16 := Ev.dfOk_mk (base := base) (f := K23.s "keeps_bound") KX G K23.s_keeps_bound (by k_is) (by k_is) (by k_is) (by k_is) (fun z => nomatch z)
    have h17 := Ev.dfOk_mk (base := base) (f := K23.s "upper_bound") KX G K23.s_upper_bound (by k_is) (by k_is) (by k_is) (by k_is) (fun z => nomatch z)
    have h18 := Ev.dfOk_mk (base := base) (f := K23.s "lower_bound") KX G K23.s_lower_bound (by k_is) (by k_is) (by k_is) (by k_is) (fun z => nomatch z)
    have h19 := Ev.dfOk_mk (base := base) (f := K23.s "are_stretches") KX G K23.s_are_stretches (by k_is) (by k_is) (by k_is) (by k_is) (fun z => nomatch z)
    have h20 := Ev.dfOk_mk (base := base) (f := K23.s "require_integer") KX G K23.s_require_integer (by k_is) (by k_is) (by k_is) (by k_is) (fun z => nomatch z)
    have h21 := Ev.dfOk_mk (base := base) (f := K23.s "free_table") KX G K23.s_free_table (by k_is) (by k_is) (by k_is) (by k_is) (fun z => nomatch z)
    have h22 := Ev.dfOk_mk (base := base) (f := K23.s "close_table") KX G K23.s_close_table (by k_is) (by k_is) (by k_is) (by k_is) (fun z => nomatch z)
    have h23 := Ev.dfOk_mk (base := base) (f := K23.s "is_table_in") KX G K23.s_is_table_in (by k_is) (by k_is) (by k_is) (by k_is) (fun z => nomatch z)
    have h24 := Ev.dfOk_mk (base := base) (f := K23.s "with_bound") KX G K23.s_with_bound (by k_is) (by k_is) (by k_is) (by k_is) (fun z => nomatch z)
    have h25 := Ev.dfOk_mk (base := base) (f := K23.s "is_inside") KX G K23.s_is_inside (by k_is) (by k_is) (by k_is) (by k_is) (fun z => nomatch z)
    have h26 := Ev.dfOk_mk (base := base) (f := K23.s "met") KX G K23.s_met (by k_is) (by k_is) (by k_is) (by k_is) (fun z => nomatch z)
    have h27 := Ev.dfOk_mk (base := base) (f := K23.s "holds_all") KX G K23.s_holds_all (by k_is) (by k_is) (by k_is) (by k_is) (fun z => nomatch z)
    have h28 := Ev.dfOk_mk (base := base) (f := K23.s "drawn_in") KX G K23.s_drawn_in (by k_is) (by k_is) (by k_is) (by k_is) (fun z => nomatch z)
    have h29 := Ev.dfOk_mk (base := base) (f := K23.s "numbers_in") KX G K23.s_numbers_in (by k_is) (by k_is) (by k_is) (by k_is) (fun z => nomatch z)
    have h30 := Ev.dfOk_mk (base := base) (f := K23.s "with_stretches") KX G K23.s_with_stretches (by k_is) (by k_is) (by k_is) (by k_is) (fun z => nomatch z)
    have h31 := Ev.dfOk_mk (base := base) (f := K23.s "let_wait") KX G K23.s_let_wait (by k_is) (by k_is) (by k_is) (by k_is) (fun z => nomatch z)
    have h32 := Ev.dfOk_mk (base := base) (f := K23.s "reset_zone") KX G K23.s_reset_zone (by k_is) (by k_is) (by k_is) (by k_is) (fun z => nomatch z)
    have h33 := Ev.dfOk_mk (base := base) (f := K23.s "from_zero") KX G K23.s_from_zero (by k_is) (by k_is) (by k_is) (by k_is) (fun z => nomatch z)
    have h34 := Ev.dfOk_mk (base := base) (f := K23.s "is_zone_of") KX G K23.s_is_zone_of (by k_is) (by k_is) (by k_is) (by k_is) (fun z => nomatch z)
    have h35 := Ev.dfOk_mk (base := base) (f := K23.s "sum_of_ring") KX G K23.s_sum_of_ring (by k_is) (by k_is) (by k_is) (by k_is) (fun z => nomatch z)
    have h36 := Ev.dfOk_mk (base := base) (f := K23.s "ring_of") KX G K23.s_ring_of (by k_is) (by k_is) (by k_is) (by k_is) (fun z => nomatch z)
    have h37 := Ev.dfOk_mk (base := base) (f := K23.s "least_ring") KX G K23.s_least_ring (by k_is) (by k_is) (by k_is) (by k_is) (fun z => nomatch z)
    have h38 := Ev.dfOk_mk (base := base) (f := K23.s "is_ring_in") KX G K23.s_is_ring_in (by k_is) (by k_is) (by k_is) (by k_is) (fun z => nomatch z)
    have h39 := Ev.dfOk_mk (base := base) (f := K23.s "is_table_value") KX G K23.s_is_table_value (by k_is) (by k_is) (by k_is) (by k_is) (fun z => nomatch z)
    have h40 := Ev.dfOk_mk (base := base) (f := K23.s "is_zone_value") KX G K23.s_is_zone_value (by k_is) (by k_is) (by k_is) (by k_is) (fun z => nomatch z)
    have h41 := Ev.dfOk_mk (base := base) (f := K23.s "require_table") KX G K23.s_require_table (by k_is) (by k_is) (by k_is) (by k_is) (fun z => nomatch z)
    have h42 := Ev.dfOk_mk (base := base) (f := K23.s "require_zone") KX G K23.s_require_zone (by k_is) (by k_is) (by k_is) (by k_is) (fun z => nomatch z)
    have h43 := Ev.dfOk_mk (base := base) (f := K23.s "require_two") KX G K23.s_require_two (by k_is) (by k_is) (by k_is) (by k_is) (fun z => nomatch z)
    have h44 := Ev.dfOk_mk (base := base) (f := K23.s "add_bounds_tables") KX G K23.s_add_bounds_tables (by k_is) (by k_is) (by k_is) (by k_is) (fun z => nomatch z)
    have h45 := Ev.dfOk_mk (base := base) (f := K23.s "zone_of") KX G K23.s_zone_of (by k_is) (by k_is) (by k_is) (by k_is) (fun z => nomatch z)
    have h46 := Ev.dfOk_mk (base := base) (f := K23.s "ring_in") KX G K23.s_ring_in (by k_is) (by k_is) (by k_is) (by k_is) (fun z => nomatch z)
    have h47 := Ev.dfOk_mk (base := base) (f := K23.s "is_ring") KX G K23.s_is_ring (by k_is) (by k_is) (by k_is) (by k_is) (fun z => nomatch z)
    have h48 := Ev.dfOk_mk (base := base) (f := K23.s "has_point") KX G K23.s_has_point (by k_is) (by k_is) (by k_is) (by k_is) (fun z => nomatch z)
    have h49 := Ev.dfOk_mk (base := base) (f := K23.s "point_in") KX G K23.s_point_in (by k_is) (by k_is) (by k_is) (by k_is) (fun z => nomatch z)
    have h50 := Ev.dfOk_mk (base := base) (f := K23.s "is_zone_in") KX G K23.s_is_zone_in (by k_is) (by k_is) (by k_is) (by k_is) (fun z => nomatch z)
    have h51 := Ev.dfOk_mk (base := base) (f := K23.s "common") KX G K23.s_common (by k_is) (by k_is) (by k_is) (by k_is) (fun z => nomatch z)
    have h52 := Ev.dfOk_mk (base := base) (f := K23.s "later") KX G K23.s_later (by k_is) (by k_is) (by k_is) (by k_is) (fun z => nomatch z)
    have h53 := Ev.dfOk_mk (base := base) (f := K23.s "put_to_zero") KX G K23.s_put_to_zero (by k_is) (by k_is) (by k_is) (by k_is) (fun z => nomatch z)
    have h54 := Ev.dfOk_mk (base := base) (f := K23.s "kept_by") KX G K23.s_kept_by (by k_is) (by k_is) (by k_is) (by k_is) (fun z => nomatch z)
    have h55 := Ev.dfOk_mk (base := base) (f := K23.s "zero_zone") KX G K23.s_zero_zone (by k_is) (by k_is) (by k_is) (by k_is) (fun z => nomatch z)
    have h56 := Ev.dfOk_mk (base := base) (f := K23.s "whole_zone") KX G K23.s_whole_zone (by k_is) (by k_is) (by k_is) (by k_is) (fun z => nomatch z)
    have h57 := Ev.dfOk_mk (base := base) (f := K23.s "_law_dice") KX G K23.s__law_dice (by k_is) (by k_is) (by k_is) (by k_is) (fun z => nomatch z)
    have h58 := Ev.dfOk_mk (base := base) (f := K23.s "_law_roll") KX G K23.s__law_roll (by k_is) (by k_is) (by k_is) (by k_is) (fun z => nomatch z)
    have h59 := Ev.dfOk_mk (base := base) (f := K23.s "_law_pick") KX G K23.s__law_pick (by k_is) (by k_is) (by k_is) (by k_is) (fun z => nomatch z)
    have h60 := Ev.dfOk_mk (base := base) (f := K23.s "_law_met") KX G K23.s__law_met (by k_is) (by k_is) (by k_is) (by k_is) (fun z => nomatch z)
    have h61 := Ev.dfOk_mk (base := base) (f := K23.s "_law_right") KX G K23.s__law_right (by k_is) (by k_is) (by k_is) (by k_is) (fun _ => ⟨rfl, Ev.lam_at TB (.head _) (of_decide_eq_true rfl)⟩)
    have h62 := Ev.dfOk_mk (base := base) (f := K23.s "law") KX G K23.s_law (by k_is) (by k_is) (by k_is) (by k_is) (fun z => nomatch z)
    have f0 : mg (K23.s "len") = none := PySem.W.mg_none_of KX G (by k_is)
    have f1 : mg (K23.s "abs") = none := PySem.W.mg_none_of KX G (by k_is)
    have f2 : mg (K23.s "max") = none := PySem.W.mg_none_of KX G (by k_is)
    have f3 : mg (K23.s "min") = none := PySem.W.mg_none_of KX G (by k_is)
    have f4 : mg (K23.s "int") = none := PySem.W.mg_none_of KX G (by k_is)
    have f5 : mg (K23.s "isinstance") = none := PySem.W.mg_none_of KX G (by k_is)
    have f6 : mg (K23.s "list") = none := PySem.W.mg_none_of KX G (by k_is)
    have f7 : mg (K23.s "tuple") = none := PySem.W.mg_none_of KX G (by k_is)
    have f8 : mg (K23.s "any") = none := PySem.W.mg_none_of KX G (by k_is)
    have f9 : mg (K23.s "all") = none := PySem.W.mg_none_of KX G (by k_is)
    have f10 : mg (K23.s "repr") = none := PySem.W.mg_none_of KX G (by k_is)
    have f11 : mg (K23.s "range") = none := PySem.W.mg_none_of KX G (by k_is)
    have f12 : mg (K23.s "enumerate") = none := PySem.W.mg_none_of KX G (by k_is)
    have f13 : mg (K23.s "zip") = none := PySem.W.mg_none_of KX G (by k_is)
    have f14 : mg (K23.s "bool") = none := PySem.W.mg_none_of KX G (by k_is)
    have f15 : mg (K23.s "set") = none := PySem.W.mg_none_of KX G (by k_is)
    have c0 := Ev.const_int (x := K23.s "FAR") (i := 1000000000000000000000000000000000000000000000000000000000000) (X := KX) (G := G) (by k_is)
    have c1 := Ev.const_int (x := K23.s "PAIR_SIZE") (i := 2) (X := KX) (G := G) (by k_is)
    have c2 := Ev.const_two (x := K23.s "ZERO") (i := 0) (j := 1) (X := KX) (G := G) (by k_is) (by k_is)
    have c3 := Ev.const_int (x := K23.s "MOST_FIRST") (i := 25) (X := KX) (G := G) (by k_is)
    have c4 := Ev.const_int (x := K23.s "MOST_LAST") (i := 24) (X := KX) (G := G) (by k_is)
    have c5 := Ev.const_int (x := K23.s "NO_END") (i := -1) (X := KX) (G := G) (by k_is)
    have c6 := Ev.const_int (x := K23.s "MOST_THINGS") (i := 6) (X := KX) (G := G) (by k_is)
    have m0 : mg (K23.s "gcd") = some (Ev.bval .gcd) ∧ (K23.s "gcd" == ("__debug__" : PySem.Str)) = false ∧ Ev.Bl.gcd = .gcd := ⟨PySem.W.mg_of KX G (by k_is), by decide +kernel, rfl⟩
    have sup : mg "super" = none := PySem.W.mg_none_of KX G (by k_is)
    have q0 : mg (K23.s "InvalidNumber") = some (.ref _) := PySem.W.mg_of KX G (by k_is)
    have e0 := Ev.exO_mk (P := PySem.Challenge.pw_allclocks_k23_errors_of_tables) (c := K23.s "InvalidNumber") (f := K23.s "value") (slf := K23.s "self") (val := K23.s "value") F.excBase_IndexError PySem.W.kxs_IndexError F.store_IndexError KX G (by k_is) sup (by decide +kernel) (by decide +kernel) (by k_is) (by k_is) (by k_is) (by k_is) (by k_is) (by k_is) (by kernel_rfl) (by kernel_rfl) (by k_is) (by rfl) (by rfl) (by rfl) (by decide +kernel) (by kernel_rfl) (by kernel_rfl) (by decide +kernel) (by kernel_rfl) (by kernel_rfl) (by decide +kernel) (by decide +kernel) (by rfl) (by rfl) (fun s a b => .of_eq rfl) (by k_is) (by rfl) (by kernel_rfl) (by kernel_rfl) (by k_is) (by k_is) (by k_is) (by k_is) (by kernel_rfl) (by k_is) (by k_is) (by k_is) (by k_is) (fun _ => ⟨_, rfl⟩)
    have g0 := K23.exF_mk (c := K23.s "InvalidNumber") (f := K23.s "value") KX q0 (by kernel_rfl) (by first | k_is | kernel_rfl)
    have e1 := Ev.exP_mk (c := K23.s "InvalidTable") F.excBase_ValueError KX G (by k_is) (by decide +kernel) (by decide +kernel) (by kernel_rfl) (by k_is) (by k_is) (by k_is)
    have e2 := Ev.exP_mk (c := K23.s "InvalidOperation") F.excBase_ValueError KX G (by k_is) (by decide +kernel) (by decide +kernel) (by kernel_rfl) (by k_is) (by k_is) (by k_is)
    have x0 := Ev.exM_mk (c := K23.s "InvalidNumber") (x := K23.s "InvalidFraction") (b := false) KX G (by decide +kernel) (by decide +kernel) (by k_is) (by k_is) (by kernel_rfl)
    have x1 := Ev.exM_mk (c := K23.s "InvalidNumber") (x := K23.s "InvalidMachine") (b := false) KX G (by decide +kernel) (by decide +kernel) (by k_is) (by k_is) (by kernel_rfl)
    have x2 := Ev.exM_mk (c := K23.s "InvalidNumber") (x := K23.s "InvalidStanding") (b := false) KX G (by decide +kernel) (by decide +kernel) (by k_is) (by k_is) (by kernel_rfl)
    have x3 := Ev.exM_mk (c := K23.s "InvalidNumber") (x := K23.s "InvalidRun") (b := false) KX G (by decide +kernel) (by decide +kernel) (by k_is) (by k_is) (by kernel_rfl)
    have x4 := Ev.exM_mk (c := K23.s "InvalidNumber") (x := K23.s "InvalidRow") (b := false) KX G (by decide +kernel) (by decide +kernel) (by k_is) (by k_is) (by kernel_rfl)
    have x5 := Ev.exM_mk (c := K23.s "InvalidNumber") (x := K23.s "InvalidTarget") (b := false) KX G (by decide +kernel) (by decide +kernel) (by k_is) (by k_is) (by kernel_rfl)
    have x6 := Ev.exM_mk (c := K23.s "InvalidNumber") (x := K23.s "InvalidTable") (b := false) KX G (by decide +kernel) (by decide +kernel) (by k_is) (by k_is) (by kernel_rfl)
    have x7 := Ev.exM_mk (c := K23.s "InvalidNumber") (x := K23.s "InvalidRegion") (b := false) KX G (by decide +kernel) (by decide +kernel) (by k_is) (by k_is) (by kernel_rfl)
    have x8 := Ev.exM_mk (c := K23.s "InvalidNumber") (x := K23.s "InvalidPrices") (b := false) KX G (by decide +kernel) (by decide +kernel) (by k_is) (by k_is) (by kernel_rfl)
    have x9 := Ev.exM_mk (c := K23.s "InvalidNumber") (x := K23.s "InvalidClaim") (b := false) KX G (by decide +kernel) (by decide +kernel) (by k_is) (by k_is) (by kernel_rfl)
    have x10 := Ev.exM_mk (c := K23.s "InvalidNumber") (x := K23.s "InvalidOperation") (b := false) KX G (by decide +kernel) (by decide +kernel) (by k_is) (by k_is) (by kernel_rfl)
    have x11 := Ev.exM_mk (c := K23.s "InvalidNumber") (x := K23.s "InvalidNumber") (b := true) KX G (by decide +kernel) (by decide +kernel) (by k_is) (by k_is) (by kernel_rfl)
    have x12 := Ev.exM_mk (c := K23.s "InvalidNumber") (x := K23.s "TooMany") (b := false) KX G (by decide +kernel) (by decide +kernel) (by k_is) (by k_is) (by kernel_rfl)
    have x13 := Ev.exM_mk (c := K23.s "InvalidNumber") (x := K23.s "Refused") (b := false) KX G (by decide +kernel) (by decide +kernel) (by k_is) (by k_is) (by kernel_rfl)
    have x14 := Ev.exM_mk (c := K23.s "InvalidTable") (x := K23.s "InvalidFraction") (b := false) KX G (by decide +kernel) (by decide +kernel) (by k_is) (by k_is) (by kernel_rfl)
    have x15 := Ev.exM_mk (c := K23.s "InvalidTable") (x := K23.s "InvalidMachine") (b := false) KX G (by decide +kernel) (by decide +kernel) (by k_is) (by k_is) (by kernel_rfl)
    have x16 := Ev.exM_mk (c := K23.s "InvalidTable") (x := K23.s "InvalidStanding") (b := false) KX G (by decide +kernel) (by decide +kernel) (by k_is) (by k_is) (by kernel_rfl)
    have x17 := Ev.exM_mk (c := K23.s "InvalidTable") (x := K23.s "InvalidRun") (b := false) KX G (by decide +kernel) (by decide +kernel) (by k_is) (by k_is) (by kernel_rfl)
    have x18 := Ev.exM_mk (c := K23.s "InvalidTable") (x := K23.s "InvalidRow") (b := false) KX G (by decide +kernel) (by decide +kernel) (by k_is) (by k_is) (by kernel_rfl)
    have x19 := Ev.exM_mk (c := K23.s "InvalidTable") (x := K23.s "InvalidTarget") (b := false) KX G (by decide +kernel) (by decide +kernel) (by k_is) (by k_is) (by kernel_rfl)
    have x20 := Ev.exM_mk (c := K23.s "InvalidTable") (x := K23.s "InvalidTable") (b := true) KX G (by decide +kernel) (by decide +kernel) (by k_is) (by k_is) (by kernel_rfl)
    have x21 := Ev.exM_mk (c := K23.s "InvalidTable") (x := K23.s "InvalidRegion") (b := false) KX G (by decide +kernel) (by decide +kernel) (by k_is) (by k_is) (by kernel_rfl)
    have x22 := Ev.exM_mk (c := K23.s "InvalidTable") (x := K23.s "InvalidPrices") (b := false) KX G (by decide +kernel) (by decide +kernel) (by k_is) (by k_is) (by kernel_rfl)
    have x23 := Ev.exM_mk (c := K23.s "InvalidTable") (x := K23.s "InvalidClaim") (b := false) KX G (by decide +kernel) (by decide +kernel) (by k_is) (by k_is) (by kernel_rfl)
    have x24 := Ev.exM_mk (c := K23.s "InvalidTable") (x := K23.s "InvalidOperation") (b := false) KX G (by decide +kernel) (by decide +kernel) (by k_is) (by k_is) (by kernel_rfl)
    have x25 := Ev.exM_mk (c := K23.s "InvalidTable") (x := K23.s "InvalidNumber") (b := false) KX G (by decide +kernel) (by decide +kernel) (by k_is) (by k_is) (by kernel_rfl)
    have x26 := Ev.exM_mk (c := K23.s "InvalidTable") (x := K23.s "TooMany") (b := false) KX G (by decide +kernel) (by decide +kernel) (by k_is) (by k_is) (by kernel_rfl)
    have x27 := Ev.exM_mk (c := K23.s "InvalidTable") (x := K23.s "Refused") (b := false) KX G (by decide +kernel) (by decide +kernel) (by k_is) (by k_is) (by kernel_rfl)
    have x28 := Ev.exM_mk (c := K23.s "InvalidOperation") (x := K23.s "InvalidFraction") (b := false) KX G (by decide +kernel) (by decide +kernel) (by k_is) (by k_is) (by kernel_rfl)
    have x29 := Ev.exM_mk (c := K23.s "InvalidOperation") (x := K23.s "InvalidMachine") (b := false) KX G (by decide +kernel) (by decide +kernel) (by k_is) (by k_is) (by kernel_rfl)
    have x30 := Ev.exM_mk (c := K23.s "InvalidOperation") (x := K23.s "InvalidStanding") (b := false) KX G (by decide +kernel) (by decide +kernel) (by k_is) (by k_is) (by kernel_rfl)
    have x31 := Ev.exM_mk (c := K23.s "InvalidOperation") (x := K23.s "InvalidRun") (b := false) KX G (by decide +kernel) (by decide +kernel) (by k_is) (by k_is) (by kernel_rfl)
    have x32 := Ev.exM_mk (c := K23.s "InvalidOperation") (x := K23.s "InvalidRow") (b := false) KX G (by decide +kernel) (by decide +kernel) (by k_is) (by k_is) (by kernel_rfl)
    have x33 := Ev.exM_mk (c := K23.s "InvalidOperation") (x := K23.s "InvalidTarget") (b := false) KX G (by decide +kernel) (by decide +kernel) (by k_is) (by k_is) (by kernel_rfl)
    have x34 := Ev.exM_mk (c := K23.s "InvalidOperation") (x := K23.s "InvalidTable") (b := false) KX G (by decide +kernel) (by decide +kernel) (by k_is) (by k_is) (by kernel_rfl)
    have x35 := Ev.exM_mk (c := K23.s "InvalidOperation") (x := K23.s "InvalidRegion") (b := false) KX G (by decide +kernel) (by decide +kernel) (by k_is) (by k_is) (by kernel_rfl)
    have x36 := Ev.exM_mk (c := K23.s "InvalidOperation") (x := K23.s "InvalidPrices") (b := false) KX G (by decide +kernel) (by decide +kernel) (by k_is) (by k_is) (by kernel_rfl)
    have x37 := Ev.exM_mk (c := K23.s "InvalidOperation") (x := K23.s "InvalidClaim") (b := false) KX G (by decide +kernel) (by decide +kernel) (by k_is) (by k_is) (by kernel_rfl)
    have x38 := Ev.exM_mk (c := K23.s "InvalidOperation") (x := K23.s "InvalidOperation") (b := true) KX G (by decide +kernel) (by decide +kernel) (by k_is) (by k_is) (by kernel_rfl)
    have x39 := Ev.exM_mk (c := K23.s "InvalidOperation") (x := K23.s "InvalidNumber") (b := false) KX G (by decide +kernel) (by decide +kernel) (by k_is) (by k_is) (by kernel_rfl)
    have x40 := Ev.exM_mk (c := K23.s "InvalidOperation") (x := K23.s "TooMany") (b := false) KX G (by decide +kernel) (by decide +kernel) (by k_is) (by k_is) (by kernel_rfl)
    have x41 := Ev.exM_mk (c := K23.s "InvalidOperation") (x := K23.s "Refused") (b := false) KX G (by decide +kernel) (by decide +kernel) (by k_is) (by k_is) (by kernel_rfl)
    have rows : Ev.RowsOk _ mg base K23.cT := ⟨Ev.row_of h0, Ev.row_of h1, Ev.row_of h2, Ev.row_of h3, Ev.row_of h4, Ev.row_of h5, Ev.row_of h6, Ev.row_of h7, Ev.row_of h8, Ev.row_of h9, Ev.row_of h10, Ev.row_of h11, Ev.row_of h12, Ev.row_of h13, Ev.row_of h14, Ev.row_of h15, Ev.row_of h16, Ev.row_of h17, Ev.row_of h18, Ev.row_of h19, Ev.row_of h20, Ev.row_of h21, Ev.row_of h22, Ev.row_of h23, Ev.row_of h24, Ev.row_of h25, Ev.row_of h26, Ev.row_of h27, Ev.row_of h28, Ev.row_of h29, Ev.row_of h30, Ev.row_of h31, Ev.row_of h32, Ev.row_of h33, Ev.row_of h34, Ev.row_of h35, Ev.row_of h36, Ev.row_of h37, Ev.row_of h38, Ev.row_of h39, Ev.row_of h40, Ev.row_of h41, Ev.row_of h42, Ev.row_of h43, Ev.row_of h44, Ev.row_of h45, Ev.row_of h46, Ev.row_of h47, Ev.row_of h48, Ev.row_of h49, Ev.row_of h50, Ev.row_of h51, Ev.row_of h52, Ev.row_of h53, Ev.row_of h54, Ev.row_of h55, Ev.row_of h56, Ev.row_of h57, Ev.row_of h58, Ev.row_of h59, Ev.row_of h60, Ev.row_of h61, Ev.row_of h62, trivial⟩
    have mod : Ev.ModOk K23.cM _ _ mg := Ev.mod_mk (base := base) (T := K23.cT) ⟨c0, c1, c2, c3, c4, c5, c6, trivial⟩ rows K23.all_in ⟨f0, f1, f2, f3, f4, f5, f6, f7, f8, f9, f10, f11, f12, f13, f14, f15, trivial⟩ ⟨m0, trivial⟩ ⟨⟨e0, g0⟩, e1, e2, trivial⟩ ⟨x0, x1, x2, x3, x4, x5, x6, x7, x8, x9, x10, x11, x12, x13, x14, x15, x16, x17, x18, x19, x20, x21, x22, x23, x24, x25, x26, x27, x28, x29, x30, x31, x32, x33, x34, x35, x36, x37, x38, x39, x40, x41, trivial⟩ K23.nm_in
    exact ⟨Ev.tab_mk mod rows K23.all_in, K23.d_law, rfl, _, h62⟩
