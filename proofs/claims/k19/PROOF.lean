import PyProof.Rows.All
import Wide.All
import OpenK.AllK
import Wide.FinOn
import HandS.ForMost
import HandS.ForExc
import HandS.WordsExc
import HandS.Wide
import HandS.IsInst
import HandS.Flow
import HandS.TupAny
import HandS.TupMul
import HandS.Style
import PyProof.ReprReads
import PyProof.EqLayable
import PyProof.ReprRoads
import PyProof.CallFns
import KE.KRevSl
import PyProof.Draws
import PyProof.EnumFor
import PyProof.EnumMake
import PyProof.TupleIter
import HandS.Ends
import PySem.Challenge.RW_allclocks_k19_bounds_tables_zones
set_option Elab.async false
set_option linter.all false
set_option maxRecDepth 100000
/-! Ev1: a plain evaluator of the language's everyday part, over data without a heap. -/
namespace Ev
open PySem L2

/-- who may write a list: its one holder; nobody; nobody, and it is not ours -/
inductive Mk where
  | own | fro | ext
  deriving DecidableEq

inductive D where
  | non | bl (b : Bool) | int (i : Int) | str (s : Str)
  | tup (ds : List D) | lst (m : Mk) (ds : List D)
  | dic (m : Mk) (ks : List Key) (ds : List D)
  | fn (x : Str) | ty (n : String)

abbrev En := List (Option D)

inductive R (α : Type) where
  | ok (a : α)
  | err (c : Str) (fs : List (Str × D)) (e : En)
  | stuck

def R.bind {α β : Type} : R α → (α → R β) → R β
  | .ok a, f => f a
  | .err c fs e, _ => .err c fs e
  | .stuck, _ => .stuck

def ofO {α : Type} : Option α → R α
  | some a => .ok a
  | none => .stuck
/-- a value that stands by itself, or a road to what a name holds -/
inductive RV where
  | val (d : D)
  | han (i : Nat) (p : List Nat)

def owned : D → Bool
  | .lst .own _ => true
  | .dic .own _ _ => true
  | _ => false
/-- no part of it is owned -/
def plainL : List D → Bool
  | [] => true
  | d :: r => !owned d && plainL r
def plain : D → Bool
  | .lst .own ds => plainL ds
  | .dic .own _ ds => plainL ds
  | _ => true

mutual
def frz : D → D
  | .lst .own ds => .lst .fro (frzL ds)
  | .dic .own ks ds => .dic .fro ks (frzL ds)
  | d => d
def frzL : List D → List D
  | [] => []
  | d :: r => frz d :: frzL r
end

/-- the part of a datum at the end of a road -/
def part : D → List Nat → Option D
  | d, [] => some d
  | .lst .own ds, j :: p => match ds[j]? with | some d => part d p | none => none
  | _, _ => none
/-- the datum with another part there -/
def putPart : D → List Nat → D → Option D
  | _, [], n => some n
  | .lst .own ds, j :: p, n => match ds[j]? with
    | some d => (match putPart d p n with | some d' => some (.lst .own (ds.set j d')) | none => none)
    | none => none
  | _, _, _ => none

def getE (e : En) (i : Nat) : Option D := match e[i]? with | some (some d) => some d | _ => none
def content (e : En) : RV → Option D
  | .val d => some d
  | .han i p => match getE e i with | some d => part d p | none => none
/-- what is kept of a value: it stands by itself from then on -/
def take (e : En) : RV → R (D × En)
  | .val d => .ok (d, e)
  | .han i p => match getE e i with
    | some d => (match part d p with | some x => .ok (frz x, e.set i (some (frz d))) | none => .stuck)
    | none => .stuck
/-- .. and is never changed from then on -/
def takeF (e : En) (v : RV) : R (D × En) := (take e v).bind fun (d, e') => .ok (frz d, e')
/-- a road of one step or more is left -/
def sole (e : En) : RV → R (RV × En)
  | .han i (j :: p) => (take e (.han i (j :: p))).bind fun (d, e') => .ok (.val d, e')
  | v => .ok (v, e)

/-! ### data as the library's -/
mutual
def toPy : D → Option PyData
  | .non => some .none
  | .bl b => some (.bool b)
  | .int i => some (.int i)
  | .str s => some (.str s)
  | .tup ds => match toPyL ds with | some xs => some (.tuple xs) | none => none
  | .lst _ ds => match toPyL ds with | some xs => some (.list xs) | none => none
  | _ => none
def toPyL : List D → Option (List PyData)
  | [] => some []
  | d :: r => match toPy d, toPyL r with | some x, some xs => some (x :: xs) | _, _ => none
end

def eqD (a b : D) : Option Bool := match toPy a, toPy b with
  | some x, some y => if SeqAt.shaped x && SeqAt.shaped y then some (PyData.eqv x y) else none
  | _, _ => none

def big : Nat := 1000000
def mulOk (i j : Int) : Bool := decide (i.natAbs.log2 + j.natAbs.log2 < big)
def divOk (j : Int) : Bool := decide (0 < j) && decide (j.natAbs.log2 < 9000)
def powOk (i j : Int) : Bool := decide (0 ≤ j) && decide ((Builtin.Int.intBits i : Int) * j ≤ 2 ^ 27)
def lenOk (n : Nat) : Bool := decide (n ≤ sizeLine)

def binop (op : Operator) (a b : D) : Option D := match op, a, b with
  | .Add, .int i, .int j => some (.int (i + j))
  | .Sub, .int i, .int j => some (.int (i - j))
  | .Mult, .int i, .int j => if mulOk i j then some (.int (i * j)) else none
  | .FloorDiv, .int i, .int j => if divOk j then some (.int (i / j)) else none
  | .Mod, .int i, .int j => if 0 < j then some (.int (i % j)) else none
  | .Pow, .int i, .int j => if powOk i j then some (.int (i ^ j.toNat)) else none
  | .Add, .tup xs, .tup ys => if lenOk (xs.length + ys.length) then some (.tup (xs ++ ys)) else none
  | .Add, .lst m xs, .lst n ys => if decide (m ≠ .ext) && decide (n ≠ .ext) && plainL xs && plainL ys && lenOk (xs.length + ys.length) then some (.lst .own (xs ++ ys)) else none
  | .Mult, .tup xs, .int k => if decide (2 ≤ k) && decide (k ≤ 1000) && !xs.isEmpty && decide (xs.length ≤ 1000) then some (.tup (List.replicate k.toNat xs).flatten) else none
  | .Mult, .lst m xs, .int k => if decide (m ≠ .ext) && plainL xs && decide (0 ≤ k) && decide (k < 2 ^ 63) && lenOk (xs.length * k.toNat) then some (.lst .own (List.replicate k.toNat xs).flatten) else none
  | _, _, _ => none

def isNon : D → Bool
  | .non => true
  | _ => false
def cmpop (op : CmpOp) (a b : D) : Option Bool := match op, a, b with
  | .Lt, .int i, .int j => some (decide (i < j))
  | .LtE, .int i, .int j => some (decide (i ≤ j))
  | .Gt, .int i, .int j => some (decide (j < i))
  | .GtE, .int i, .int j => some (decide (j ≤ i))
  | .Is, x, .non => some (isNon x)
  | .IsNot, x, .non => some (!isNon x)
  | .Eq, x, y => eqD x y
  | .NotEq, x, y => (eqD x y).map fun b => !b
  | _, _, _ => none

def truth : D → Option Bool
  | .non => some false
  | .bl b => some b
  | .int i => some (i != 0)
  | .tup ds => some (!ds.isEmpty)
  | .lst _ ds => some (!ds.isEmpty)
  | _ => none

/-! ### built-in functions -/
inductive Bl where
  | len | abs | max | min | int | isinstance | list | tuple | any | all | repr

def bltOf (x : Str) : Option Bl :=
  if x == "len" then some .len else if x == "abs" then some .abs else if x == "max" then some .max else if x == "min" then some .min
  else if x == "int" then some .int else if x == "isinstance" then some .isinstance else if x == "list" then some .list else if x == "tuple" then some .tuple
  else if x == "any" then some .any else if x == "all" then some .all else if x == "repr" then some .repr else none

/-- a datum's built-in type -/
def tyOf : D → Option String
  | .non => some "NoneType"
  | .bl _ => some "bool"
  | .int _ => some "int"
  | .str _ => some "str"
  | .tup _ => some "tuple"
  | .lst _ _ => some "list"
  | .dic _ _ _ => some "dict"
  | _ => none
def isinst (d : D) (t : String) : Option Bool := match tyOf d with
  | some a => (match kitB a t with | some b => some b | none => none)
  | none => none

def bools : List D → Option (List Bool)
  | [] => some []
  | .bl b :: r => (match bools r with | some bs => some (b :: bs) | none => none)
  | _ => none

def callB (b : Bl) (ds : List D) : Option D := match b, ds with
  | .len, [.tup xs] => some (.int xs.length)
  | .len, [.lst _ xs] => some (.int xs.length)
  | .abs, [.int i] => some (.int (if i < 0 then -i else i))
  | .max, [.int i, .int j] => some (.int (if j > i then j else i))
  | .min, [.int i, .int j] => some (.int (if j < i then j else i))
  | .int, [.int i] => some (.int i)
  | .int, [.bl b] => some (.int (if b then 1 else 0))
  | .isinstance, [d, .ty t] => (isinst d t).map fun b => .bl b
  | .list, [.tup xs] => some (.lst .own xs)
  | .list, [.lst _ xs] => if plainL xs then some (.lst .own xs) else none
  | .tuple, [.tup xs] => some (.tup xs)
  | .tuple, [.lst _ xs] => if plainL xs then some (.tup xs) else none
  | .any, [.lst _ xs] => (match bools xs with | some bs => some (.bl (bs.any id)) | none => none)
  | .all, [.lst _ xs] => (match bools xs with | some bs => some (.bl (bs.all id)) | none => none)
  | .repr, [d] => (match toPy d with
    | some p => if p.showable && decide (p.depth ≤ 64) && lenOk p.shown.length then some (.str p.shown) else none
    | none => none)
  | _, _ => none

/-- x[i]: the place that is meant -/
def item (xs : List D) (i : Int) : Option Nat := match ixN xs.length i with | some j => some j | none => none

end Ev

set_option Elab.async false
set_option linter.all false
set_option maxRecDepth 100000
/-! Ev2: the evaluator. -/
namespace Ev
open PySem L2

def slotOf : List Str → Str → Option Nat
  | [], _ => none
  | y :: r, x => if y == x then some 0 else (slotOf r x).map (· + 1)

/-- where one stands: the slots' names, the scope, the names that make cells here, the slots that are lent -/
structure Cn where
  N : List Str
  sc : Scope
  fnc : Str → Bool
  bor : List Nat
def Cn.sub (G : Cn) (scope : Scope) : Cn := { G with sc := relS scope G.sc, fnc := fun x => scope.names.lookup x == some .cell }
def Cn.kind (G : Cn) (x : Str) : Option NameKind := G.sc.names.lookup x
def Cn.vis (G : Cn) (x : Str) : Bool := match G.kind x with | some .local => true | some .cell => true | some .free => true | _ => false
def Cn.loc (G : Cn) (x : Str) : Bool := match G.kind x with | some .local => true | some .cell => G.fnc x | _ => false
def Cn.glob (G : Cn) (x : Str) : Bool := match G.kind x with | some .globalImplicit => true | _ => false

/-- the module: constants, defs, the names of built-ins that it does not bind -/
structure Gb where
  consts : List (Str × D)
  defs : List Str
  free : List Str

abbrev Cl := Str → List D → R (D × List (Option D))

def tyName (x : Str) : Option String :=
  if x == "int" then some "int" else if x == "bool" then some "bool" else if x == "tuple" then some "tuple" else if x == "list" then some "list"
  else if x == "str" then some "str" else if x == "dict" then some "dict" else none

def nameE (M : Gb) (G : Cn) (x : Str) (e : En) : R (RV × En) := match slotOf G.N x with
  | some i => if G.vis x then (match getE e i with
    | some d => .ok (if owned d then .han i [] else .val d, e)
    | none => .stuck) else .stuck
  | none => if G.glob x then (match M.consts.lookup x with
    | some d => .ok (.val d, e)
    | none => if M.defs.contains x then .ok (.val (.fn x), e) else if M.free.contains x then (match tyName x with | some t => .ok (.val (.ty t), e) | none => .stuck) else .stuck) else .stuck

def plainOp : CmpOp → Bool
  | .In => false
  | .NotIn => false
  | _ => true
def plainIx : Expr → Bool
  | .Slice _ _ _ _ => false
  | _ => true
def stops : BoolOp → Bool → Bool
  | .And, c => !c
  | .Or, c => c
/-- an int that is reckoned with names and written numbers alone -/
def intE (G : Cn) : Nat → Expr → En → Option Int
  | 0, _, _ => none
  | n + 1, x, e => match x with
    | .Constant (.int i) _ _ => some i
    | .Name y _ => (match slotOf G.N y with
      | some j => if G.vis y then (match getE e j with | some (.int i) => some i | _ => none) else none
      | none => none)
    | .BinOp a .Add b _ => (match intE G n a e, intE G n b e with | some i, some j => some (i + j) | _, _ => none)
    | .BinOp a .Sub b _ => (match intE G n a e, intE G n b e with | some i, some j => some (i - j) | _, _ => none)
    | .UnaryOp .USub a _ => (match intE G n a e with | some i => some (-i) | none => none)
    | _ => none
/-- an item -/
def itemE (va : RV) (c : Option D) (i : Int) (e : En) : R (RV × En) := match c with
  | some (.tup xs) => (match item xs i with
    | some j => (match xs[j]? with | some d => .ok (.val d, e) | none => .stuck)
    | none => .stuck)
  | some (.lst m xs) => (match item xs i with
    | some j => (match xs[j]? with
      | some d => if owned d then (match va with | .han s p => .ok (.han s (p ++ [j]), e) | _ => .stuck) else .ok (.val d, e)
      | none => .stuck)
    | none => .stuck)
  | _ => .stuck
inductive Fl where
  | nx (e : En) | rt (d : D) (e : En) | bk (e : En) | ct (e : En)

def contents (e : En) : List RV → Option (List D)
  | [] => some []
  | v :: r => match content e v, contents e r with | some d, some ds => some (d :: ds) | _, _ => none

def setS (G : Cn) (i : Nat) (d : D) (e : En) : R En := if G.bor.contains i then .stuck else if i < e.length then .ok (e.set i (some d)) else .stuck
def asgN (G : Cn) (x : Str) (d : D) (e : En) : R En := match slotOf G.N x with
  | some i => if G.loc x then setS G i d e else .stuck
  | none => .stuck
def asgNs (G : Cn) : List Expr → List D → En → R En
  | [], [], e => .ok e
  | .Name x _ :: r, d :: ds, e => (asgN G x d e).bind fun e1 => asgNs G r ds e1
  | _, _, _ => .stuck
/-- a target of a loop -/
def asgT (G : Cn) : Expr → D → En → R En
  | .Name x _, d, e => asgN G x d e
  | .Tuple ts _ _, .tup ds, e => if ts.length == ds.length then asgNs G ts ds e else .stuck
  | _, _, _ => .stuck

def rgOk (i : Int) : Bool := decide (-(2 ^ 62) ≤ i) && decide (i < 2 ^ 62)
def rgD (i : Int) (n : Nat) : List D := (List.range n).map fun (k : Nat) => .int (i + (k : Int))
def enD : Nat → List D → List D
  | _, [] => []
  | k, d :: r => .tup [.int k, d] :: enD (k + 1) r
def zipD : List D → List D → List D
  | d :: r, c :: s => .tup [d, c] :: zipD r s
  | _, _ => []
def isTup : Expr → Bool
  | .Tuple _ _ _ => true
  | _ => false

/-- the slots of a comprehension's own names -/
def ownOf (N : List Str) (scope : Scope) : List (Str × Nat) := scope.names.filterMap fun y => match y.2 with
  | .local => (slotOf N y.1).map fun i => (y.1, i)
  | .cell => (slotOf N y.1).map fun i => (y.1, i)
  | _ => none
def wipeE (e : En) : List Nat → En
  | [] => e
  | v :: vs => (wipeE e vs).set v none
def patchE (e0 : En) : En → List Nat → En
  | e, [] => e
  | e, v :: vs => patchE e0 (e.set v (match e0[v]? with | some o => o | none => none)) vs
def backE (e0 e : En) (vs : List Nat) : En := patchE e0 (wipeE e vs) vs
def freeE (e : En) : List Nat → Bool
  | [] => true
  | v :: vs => (match getE e v with | some d => !owned d | none => true) && freeE e vs

def forL (asg : D → En → R En) (body : En → R Fl) : List D → En → R Fl
  | [], e => .ok (.nx e)
  | d :: r, e => (asg d e).bind fun e1 => (body e1).bind fun
    | .nx e2 => forL asg body r e2
    | .ct e2 => forL asg body r e2
    | .bk e2 => .ok (.nx e2)
    | .rt x e2 => .ok (.rt x e2)
def whileL (test : En → R (Bool × En)) (body : En → R Fl) : Nat → En → R Fl
  | 0, _ => .stuck
  | n + 1, e => (test e).bind fun (b, e1) => if b then (body e1).bind fun
    | .nx e2 => whileL test body n e2
    | .ct e2 => whileL test body n e2
    | .bk e2 => .ok (.nx e2)
    | .rt x e2 => .ok (.rt x e2)
    else .ok (.nx e1)
def lcL (vs : List Nat) (asg : D → En → R En) (test : En → R (Bool × En)) (elt : En → R (D × En)) : List D → List D → En → R (List D × En)
  | [], acc, e => .ok (acc, e)
  | d :: r, acc, e => (asg d (wipeE e vs)).bind fun e1 => (test e1).bind fun (b, e2) =>
    if b then (elt e2).bind fun (x, e3) => if acc.length < sizeLine then lcL vs asg test elt r (acc ++ [x]) e3 else .stuck
    else lcL vs asg test elt r acc e2

/-- arguments for a def: what stands by itself is never changed again, a road's content is lent (its slot is empty meanwhile) -/
def lend (e : En) : List RV → Option (List D × List (Option Nat) × En)
  | [] => some ([], [], e)
  | .val d :: r => (match lend e r with | some (ds, is, e1) => some (frz d :: ds, none :: is, e1) | none => none)
  | .han i [] :: r => (match getE e i with
    | some d => (match lend (e.set i none) r with | some (ds, is, e1) => some (d :: ds, some i :: is, e1) | none => none)
    | none => none)
  | _ => none
def giveBack : List (Option Nat) → List (Option D) → En → Option En
  | [], _, e => some e
  | none :: r, _ :: s, e => giveBack r s e
  | some i :: r, some d :: s, e => giveBack r s (e.set i (some d))
  | _, _, _ => none
/-- the items of a display -/
def takes (e : En) : List RV → R (List D × En)
  | [] => .ok ([], e)
  | v :: r => (take e v).bind fun (d, e1) => (takes e1 r).bind fun (ds, e2) => .ok (d :: ds, e2)

def cut (xs : List D) (lo hi : Option Int) : List D := (xs.drop (HT.sIx xs.length 0 lo)).take (HT.sIx xs.length xs.length hi - HT.sIx xs.length 0 lo)

/-- a def of the module -/
def callF (cl : Cl) (f : Str) (vs : List RV) (e : En) : R (RV × En) := match lend e vs with
  | some (ds, is, e1) => (cl f ds).bind fun (d, outs) => (match giveBack is outs e1 with | some e2 => .ok (.val d, e2) | none => .stuck)
  | none => .stuck
def noStar : List Expr → Bool
  | [] => true
  | .Starred _ _ :: _ => false
  | _ :: r => noStar r

section
variable (M : Gb) (cl : Cl)

mutual
def evE (G : Cn) : Nat → Expr → En → R (RV × En)
  | 0, _, _ => .stuck
  | n + 1, x, e => match x with
    | .Constant .none _ _ => .ok (.val .non, e)
    | .Constant (.bool b) _ _ => .ok (.val (.bl b), e)
    | .Constant (.int i) _ _ => .ok (.val (.int i), e)
    | .Constant (.str s) _ _ => .ok (.val (.str s), e)
    | .Name y _ => nameE M G y e
    | .BinOp a op b _ => (evO G n a e).bind fun (va, e1) => (evO G n b e1).bind fun (vb, e2) => match content e2 va, content e2 vb with
      | some x, some y => (match binop op x y with
        | some d => .ok (.val d, e2)
        | none => (takes e2 [va, vb]).bind fun (ds, e3) => match ds with
          | [x', y'] => (ofO (binop op x' y')).bind fun d => .ok (.val d, e3)
          | _ => .stuck)
      | _, _ => .stuck
    | .UnaryOp .Not a _ => (evE G n a e).bind fun (v, e1) => match content e1 v with | some d => (ofO (truth d)).bind fun b => .ok (.val (.bl !b), e1) | none => .stuck
    | .UnaryOp .USub a _ => (evE G n a e).bind fun (va, e1) => match content e1 va with
      | some (.int i) => .ok (.val (.int (-i)), e1)
      | _ => .stuck
    | .BoolOp op vs _ => evB G n op vs e
    | .IfExp t a b _ => (evT G n t e).bind fun (c, e1) => if c then evE G n a e1 else evE G n b e1
    | .Compare a [op] [b] _ => if plainOp op then (evO G n a e).bind fun (va, e1) => (evO G n b e1).bind fun (vb, e2) => (match content e2 va, content e2 vb with
      | some x, some y => (ofO (cmpop op x y)).bind fun c => .ok (.val (.bl c), e2)
      | _, _ => .stuck) else .stuck
    | .Compare a [op, op2] [b, c] _ => if plainOp op && plainOp op2 then (evO G n a e).bind fun (va, e1) => (evO G n b e1).bind fun (vb, e2) => (match content e2 va, content e2 vb with
      | some x, some y => (ofO (cmpop op x y)).bind fun k => if k then (evO G n c e2).bind fun (vc, e3) => (match content e3 vb, content e3 vc with
        | some y', some z => (ofO (cmpop op2 y' z)).bind fun k2 => .ok (.val (.bl k2), e3)
        | _, _ => .stuck) else .ok (.val (.bl false), e2)
      | _, _ => .stuck) else .stuck
    | .Tuple es _ _ => (evA G n es e).bind fun (vs, e1) => (takes e1 vs).bind fun (ds, e2) => if lenOk ds.length then .ok (.val (.tup (frzL ds)), e2) else .stuck
    | .List es _ => (evA G n es e).bind fun (vs, e1) => (takes e1 vs).bind fun (ds, e2) => if lenOk ds.length then .ok (.val (.lst .own ds), e2) else .stuck
    | .Dict [] [] _ => .ok (.val (.dic .own [] []), e)
    | .Subscript a (.Slice none none (some (.UnaryOp .USub (.Constant (.int 1) _ _) _)) _) _ => (evE G n a e).bind fun (va, e1) => match content e1 va with
      | some (.tup xs) => if xs.isEmpty then .stuck else .ok (.val (.tup xs.reverse), e1)
      | some (.lst m xs) => if plainL xs then .ok (.val (.lst .own xs.reverse), e1) else .stuck
      | _ => .stuck
    | .Subscript a (.Slice lo hi none _) _ => (evO G n a e).bind fun (va, e1) => (evP G n lo e1).bind fun (l, e2) => (evP G n hi e2).bind fun (h, e3) => match content e3 va with
      | some (.tup xs) => .ok (.val (.tup (cut xs l h)), e3)
      | some (.lst m xs) => if plainL xs then .ok (.val (.lst .own (cut xs l h)), e3) else .stuck
      | _ => .stuck
    | .Subscript a b _ => if !plainIx b then .stuck else (evE G n a e).bind fun (va, e1) => match intE G 8 b e1 with
      | some i => itemE va (content e1 va) i e1
      | none => (sole e1 va).bind fun (va, e1) => (evE G n b e1).bind fun (vb, e2) => match content e2 vb with
        | some (.int i) => itemE va (content e2 va) i e2
        | _ => .stuck
    | .ListComp elt [⟨tg, iter, ifs, 0⟩] scope _ =>
      let own := ownOf G.N scope
      let vs := own.map (·.2)
      if blkC G.N G.sc scope own then (evI G n tg iter e).bind fun (ds, e1) => if freeE e1 vs then
        (lcL vs (asgT (G.sub scope) tg) (fun e => evF (G.sub scope) n ifs e) (fun e => (evE (G.sub scope) n elt e).bind fun (v, e') => take e' v) ds [] e1).bind fun (out, e2) => .ok (.val (.lst .own out), backE e1 e2 vs)
        else .stuck
      else .stuck
    | .Call (.Name f _) [a] [] _ => if !noStar [a] then .stuck else (match slotOf G.N f with
      | some i => .stuck
      | none => if G.glob f then (if M.defs.contains f then (evA G n [a] e).bind fun (vs, e1) => callF cl f vs e1 else if M.free.contains f then (match bltOf f with
        | some b => (evE G n a e).bind fun (v, e1) => (match content e1 v with | some d => (ofO (callB b [d])).bind fun r => .ok (.val r, e1) | none => .stuck)
        | none => .stuck) else .stuck) else .stuck)
    | .Call (.Name f _) (a :: as) [] _ => if !noStar (a :: as) then .stuck else (match slotOf G.N f with
      | some i => .stuck
      | none => if G.glob f then (if M.defs.contains f then (evA G n (a :: as) e).bind fun (vs, e1) => callF cl f vs e1 else if M.free.contains f then (match bltOf f with
        | some b => (evA G n (a :: as) e).bind fun (vs, e1) => (match contents e1 vs with | some ds => (ofO (callB b ds)).bind fun r => .ok (.val r, e1) | none => .stuck)
        | none => .stuck) else .stuck) else .stuck)
    | _ => .stuck
/-- an operand -/
def evO (G : Cn) : Nat → Expr → En → R (RV × En)
  | 0, _, _ => .stuck
  | n + 1, x, e => (evE G n x e).bind fun (v, e1) => sole e1 v
/-- a test -/
def evT (G : Cn) : Nat → Expr → En → R (Bool × En)
  | 0, _, _ => .stuck
  | n + 1, x, e => match x with
    | .BoolOp op vs _ => evTs G n op vs e
    | .UnaryOp .Not a _ => (evT G n a e).bind fun (b, e1) => .ok (!b, e1)
    | .IfExp t a b _ => (evT G n t e).bind fun (c, e1) => if c then evT G n a e1 else evT G n b e1
    | _ => (evE G n x e).bind fun (v, e1) => match content e1 v with | some d => (ofO (truth d)).bind fun b => .ok (b, e1) | none => .stuck
def evTs (G : Cn) : Nat → BoolOp → List Expr → En → R (Bool × En)
  | 0, _, _, _ => .stuck
  | n + 1, op, vs, e => match vs with
    | [] => .stuck
    | [a] => evT G n a e
    | a :: r => (evT G n a e).bind fun (c, e1) => if stops op c then .ok (c, e1) else evTs G n op r e1
/-- and, or as values -/
def evB (G : Cn) : Nat → BoolOp → List Expr → En → R (RV × En)
  | 0, _, _, _ => .stuck
  | n + 1, op, vs, e => match vs with
    | [] => .stuck
    | [a] => evE G n a e
    | a :: r => (evE G n a e).bind fun (v, e1) => match content e1 v with
      | some d => (ofO (truth d)).bind fun c => if stops op c then .ok (v, e1) else evB G n op r e1
      | none => .stuck
def evA (G : Cn) : Nat → List Expr → En → R (List RV × En)
  | 0, _, _ => .stuck
  | n + 1, vs, e => match vs with
    | [] => .ok ([], e)
    | a :: r => (evO G n a e).bind fun (v, e1) => (evA G n r e1).bind fun (vs, e2) => .ok (v :: vs, e2)
/-- a part of a slice -/
def evP (G : Cn) : Nat → Option Expr → En → R (Option Int × En)
  | 0, _, _ => .stuck
  | n + 1, x, e => match x with
    | none => .ok (none, e)
    | some a => (evE G n a e).bind fun (v, e1) => match content e1 v with | some (.int i) => .ok (some i, e1) | _ => .stuck
/-- a comprehension's tests -/
def evF (G : Cn) : Nat → List Expr → En → R (Bool × En)
  | 0, _, _ => .stuck
  | n + 1, x, e => match x with
    | [] => .ok (true, e)
    | [a] => evT G n a e
    | _ => .stuck
/-- what is walked -/
def evI (G : Cn) : Nat → Expr → Expr → En → R (List D × En)
  | 0, _, _, _ => .stuck
  | n + 1, tg, x, e => match x with
    | .Call (.Name f p) [a] [] q => if f == "range" then (match slotOf G.N f with
        | some _ => .stuck
        | none => if G.glob f && M.free.contains f then (evE G n a e).bind fun (v, e1) => (match content e1 v with | some (.int j) => if rgOk j then .ok (rgD 0 j.toNat, e1) else .stuck | _ => .stuck) else .stuck)
      else if f == "enumerate" then (match slotOf G.N f with
        | some _ => .stuck
        | none => if G.glob f && M.free.contains f && isTup tg then (evE G n a e).bind fun (v, e1) => (takeF e1 v).bind fun (d, e2) => (match d with | .tup ds => .ok (enD 0 ds, e2) | .lst _ ds => .ok (enD 0 ds, e2) | _ => .stuck) else .stuck)
      else evW G n x e
    | .Call (.Name f p) [a, b] [] q => if f == "range" then (match slotOf G.N f with
        | some _ => .stuck
        | none => if G.glob f && M.free.contains f then (evO G n a e).bind fun (v, e1) => (evE G n b e1).bind fun (w, e2) => (match content e2 v, content e2 w with
          | some (.int i), some (.int j) => if rgOk i && rgOk j then .ok (rgD i (j - i).toNat, e2) else .stuck
          | _, _ => .stuck) else .stuck)
      else evW G n x e
    | _ => evW G n x e
def evW (G : Cn) : Nat → Expr → En → R (List D × En)
  | 0, _, _ => .stuck
  | n + 1, x, e => (evE G n x e).bind fun (v, e1) => (takeF e1 v).bind fun (d, e2) => match d with
    | .tup ds => .ok (ds, e2)
    | .lst _ ds => .ok (ds, e2)
    | _ => .stuck
end
end
end Ev

set_option Elab.async false
set_option linter.all false
set_option maxRecDepth 100000
/-! Ev3: statements, defs, levels. -/
namespace Ev
open PySem L2

/-- a, b = x, y (or three) with plain local names on one row: no tuple is made -/
def namesOn (G : Cn) (line : Nat) : List Expr → Option (List Str)
  | [] => some []
  | .Name x p :: r => if G.kind x == some .local && p.line == line then (match namesOn G line r with | some xs => some (x :: xs) | none => none) else none
  | _ => none
def headLine : List Expr → Nat
  | e :: _ => e.pos.line
  | [] => 0
inductive Sw where
  | no | yes (xs : List Str) | bad
def swap (G : Cn) (ts vs : List Expr) : Sw :=
  if !(ts.length == 2 || ts.length == 3) || vs.length != ts.length then .no
  else if !noStar vs then .bad
  else match namesOn G (headLine ts) ts with
    | some xs => if xs.eraseDups.length != xs.length then .bad else if vs.all (foldedForSure 8) then .no else if vs.all (constantsAlone 8) then .bad else .yes xs
    | none => .no

def isOL : Option D → Bool
  | some (.lst .own _) => true
  | _ => false
def binIp (op : Operator) (a b : D) : Option D := match op, a, b with
  | .Add, .int i, .int j => some (.int (i + j))
  | .Sub, .int i, .int j => some (.int (i - j))
  | _, _, _ => none

section
variable (M : Gb) (cl : Cl)

def asgXs (G : Cn) : List Str → List D → En → R En
  | [], [], e => .ok e
  | x :: r, d :: ds, e => (asgN G x d e).bind fun e1 => asgXs G r ds e1
  | _, _, _ => .stuck
/-- xs[i] = d -/
def asgI (G : Cn) (n : Nat) (a b : Expr) (d : D) (e : En) : R En := (evE M cl G n a e).bind fun (va, e1) => match va, content e1 va, intE G 8 b e1 with
  | .han s p, some (.lst .own xs), some i => (match item xs i, getE e1 s with
    | some j, some d0 => (match putPart d0 (p ++ [j]) d with | some d1 => .ok (e1.set s (some d1)) | none => .stuck)
    | _, _ => .stuck)
  | _, _, _ => .stuck
/-- targets of a tuple assignment, from the left -/
def asgEach (G : Cn) (n : Nat) : List Expr → List D → En → R En
  | [], [], e => .ok e
  | .Name x _ :: r, d :: ds, e => (asgN G x d e).bind fun e1 => asgEach G n r ds e1
  | .Subscript a b _ :: r, d :: ds, e => (asgI M cl G n a b d e).bind fun e1 => asgEach G n r ds e1
  | _, _, _ => .stuck

mutual
def evS (G : Cn) (w : Nat) : Nat → Stmt → En → R Fl
  | 0, _, _ => .stuck
  | n + 1, st, e => match st with
    | .Pass _ => .ok (.nx e)
    | .Break _ => .ok (.bk e)
    | .Continue _ => .ok (.ct e)
    | .Return none _ => .ok (.rt .non e)
    | .Return (some x) _ => (evE M cl G w x e).bind fun (v, e1) => match v with
      | .val d => .ok (.rt d e1)
      | .han i [] => if G.bor.contains i then (take e1 v).bind fun (d, e2) => .ok (.rt d e2) else (match getE e1 i with | some d => .ok (.rt d (e1.set i none)) | none => .stuck)
      | .han i (j :: p) => (take e1 v).bind fun (d, e2) => .ok (.rt d e2)
    | .Expr (.Call (.Attribute o m ap) [a] [] cp) _ => if m == "append" && ap.endLine == cp.line && noStar [a] then
        (evO M cl G w o e).bind fun (vo, e1) => if !isOL (content e1 vo) then .stuck else (evE M cl G w a e1).bind fun (va, e2) => (take e2 va).bind fun (d, e3) => match vo, content e3 vo with
          | .han s p, some (.lst .own xs) => if xs.length < sizeLine then (match getE e3 s with
            | some d0 => (match putPart d0 p (.lst .own (xs ++ [d])) with | some d1 => .ok (.nx (e3.set s (some d1))) | none => .stuck)
            | none => .stuck) else .stuck
          | _, _ => .stuck
      else .stuck
    | .Expr (.Call (.Name f p) as [] q) _ => (evE M cl G w (.Call (.Name f p) as [] q) e).bind fun (_, e1) => .ok (.nx e1)
    | .Assign [.Name x _] v _ => (evE M cl G w v e).bind fun (rv, e1) => (take e1 rv).bind fun (d, e2) => (asgN G x d e2).bind fun e3 => .ok (.nx e3)
    | .Assign [.Tuple ts _ _] v _ => (match v with
      | .Tuple vs _ _ => (match swap G ts vs with
        | .yes xs => (evA M cl G w vs e).bind fun (rs, e1) => (takes e1 rs).bind fun (ds, e2) => (asgXs G xs ds e2).bind fun e3 => .ok (.nx e3)
        | .no => if ts.length == vs.length then (evA M cl G w vs e).bind fun (rs, e1) => (takes e1 rs).bind fun (ds, e2) => if lenOk ds.length then (asgEach M cl G w ts ds e2).bind fun e3 => .ok (.nx e3) else .stuck else .stuck
        | .bad => .stuck)
      | _ => asgTup G w ts v e)
    | .Assign [.Subscript a b _] v _ => (evE M cl G w v e).bind fun (rv, e1) => (take e1 rv).bind fun (d, e2) => (asgI M cl G w a b d e2).bind fun e3 => .ok (.nx e3)
    | .AugAssign (.Name x _) op v _ => (match slotOf G.N x with
      | some i => if G.loc x then (match getE e i with
        | some (.int o) => (evE M cl G w v e).bind fun (rv, e1) => (match content e1 rv with
          | some y => (ofO (binIp op (.int o) y)).bind fun d => (setS G i d e1).bind fun e2 => .ok (.nx e2)
          | none => .stuck)
        | _ => .stuck) else .stuck
      | none => .stuck)
    | .If c a b _ => (evT M cl G w c e).bind fun (k, e1) => if k then evSs G w n a e1 else evSs G w n b e1
    | .For tg iter body [] _ => (evI M cl G w tg iter e).bind fun (ds, e1) => forL (asgT G tg) (fun e => evSs G w n body e) ds e1
    | .While c body [] _ => whileL (fun e => evT M cl G w c e) (fun e => evSs G w n body e) (2 ^ 32) e
    | _ => .stuck
def evSs (G : Cn) (w : Nat) : Nat → List Stmt → En → R Fl
  | 0, _, _ => .stuck
  | n + 1, ss, e => match ss with
    | [] => .ok (.nx e)
    | s :: r => (evS G w n s e).bind fun
      | .nx e1 => evSs G w n r e1
      | f => .ok f
def asgTup (G : Cn) (w : Nat) (ts : List Expr) (v : Expr) (e : En) : R Fl :=
  (evE M cl G w v e).bind fun (rv, e1) => (takeF e1 rv).bind fun (d, e2) => match d with
    | .tup ds => if ts.length == ds.length then (asgEach M cl G w ts ds e2).bind fun e3 => .ok (.nx e3) else .stuck
    | _ => .stuck
end
end

/-- the defs: the name that the module holds it by, the statement, the slots' names, the number of parameters -/
structure Df where
  st : Stmt
  N : List Str
  np : Nat

def outsOf : List D → En → List (Option D)
  | [], _ => []
  | d :: ds, o :: e => (if owned d then o else none) :: outsOf ds e
  | _ :: ds, [] => none :: outsOf ds []
def borOf (ds : List D) : List Nat := (List.range ds.length).filter fun j => match ds[j]? with | some d => owned d | none => false

def runDef (M : Gb) (cl : Cl) (f : Df) (ds : List D) : R (D × List (Option D)) :=
  if ds.length ≠ f.np then .stuck else
  (evSs M cl { N := f.N, sc := defScope f.st, fnc := fun _ => true, bor := borOf ds } 60 200 (defBody f.st) (ds.map some ++ List.replicate (f.N.length - ds.length) none)).bind fun
    | .nx e => .ok (.non, outsOf ds e)
    | .rt d e => .ok (d, outsOf ds e)
    | _ => .stuck

def lev (M : Gb) (T : List (Str × Df)) : Nat → Cl
  | 0, _, _ => .stuck
  | k + 1, f, ds => match T.lookup f with
    | some df => runDef M (lev M T k) df ds
    | none => .stuck
end Ev

set_option Elab.async false
set_option linter.all false
set_option maxRecDepth 100000
/-! Ev4: how data lie in a heap. F: what is never written again; as: the addresses that are owned. -/
namespace Ev
open PySem L2

section
variable (K : PySem.W.Frag) (mg : Str → Option Value) (F H : Hp)
mutual
def Rep : D → V → List Addr → Prop
  | .non, v, as => v = .non ∧ as = []
  | .bl b, v, as => v = .bl b ∧ as = []
  | .int i, v, as => v = .int i ∧ as = []
  | .str x, v, as => v = .str x ∧ as = []
  | .ty n, v, as => v = .ty n ∧ as = []
  | .fn x, v, as => as = [] ∧ ∃ a, v = .ref a ∧ mg x = some (.ref a)
  | .tup ds, v, as => as = [] ∧ ∃ a vs, v = .ref a ∧ SqT K F a vs ∧ ReL ds vs []
  | .lst .own ds, v, as => ∃ a vs bs, v = .ref a ∧ as = a :: bs ∧ H a = some (.lst vs) ∧ ReL ds vs bs
  | .lst .fro ds, v, as => as = [] ∧ ∃ a vs, v = .ref a ∧ F a = some (.lst vs) ∧ ReL ds vs []
  | .lst .ext ds, v, as => as = [] ∧ ∃ a vs, v = .ref a ∧ SqL K F a vs ∧ ReL ds vs []
  | .dic .own ks ds, v, as => ∃ a kvs bs, v = .ref a ∧ as = a :: bs ∧ H a = some (.dK kvs) ∧ kvs.map (·.1) = ks ∧ ReL ds (kvs.map (·.2)) bs
  | .dic _ ks ds, v, as => as = [] ∧ ∃ a kvs, v = .ref a ∧ F a = some (.dK kvs) ∧ kvs.map (·.1) = ks ∧ ReL ds (kvs.map (·.2)) []
def ReL : List D → List V → List Addr → Prop
  | [], vs, as => vs = [] ∧ as = []
  | d :: ds, vs, as => ∃ v r a1 a2, vs = v :: r ∧ as = a1 ++ a2 ∧ Rep d v a1 ∧ ReL ds r a2
end
/-- the slots -/
def EL : En → St → List Addr → Prop
  | [], σ, as => σ = [] ∧ as = []
  | none :: e, σ, as => ∃ o r, σ = o :: r ∧ EL e r as
  | some d :: e, σ, as => ∃ v r a1 a2, σ = some v :: r ∧ as = a1 ++ a2 ∧ Rep K mg F H d v a1 ∧ EL e r a2
end

def Le (F F' : Hp) : Prop := ∀ a o, F a = some o → F' a = some o
theorem Le.refl (F : Hp) : Le F F := fun _ _ h => h
theorem Le.trans {F G H : Hp} (a : Le F G) (b : Le G H) : Le F H := fun x o h => b x o (a x o h)
theorem Le.seqL {K : PySem.W.Frag} {F F' : Hp} {a : Addr} {xs : List V} (l : Le F F') (h : SqL K F a xs) : SqL K F' a xs := by
  rcases h with (h | ⟨o, h⟩) | h
  · exact .inl (.inl (l _ _ h))
  · exact .inl (.inr ⟨o, l _ _ h⟩)
  · exact .inr h
theorem Le.seqT {K : PySem.W.Frag} {F F' : Hp} {a : Addr} {xs : List V} (l : Le F F') (h : SqT K F a xs) : SqT K F' a xs := by
  rcases h with (h | ⟨o, h⟩) | h
  · exact .inl (.inl (l _ _ h))
  · exact .inl (.inr ⟨o, l _ _ h⟩)
  · exact .inr h

section
variable {K : PySem.W.Frag} {mg : Str → Option Value} {F H F' H' : Hp}
mutual
theorem Rep.mono (l : Le F F') : ∀ (d : D) (v : V) (as : List Addr), (∀ a ∈ as, ∀ o, H a = some o → H' a = some o) → Rep K mg F H d v as → Rep K mg F' H' d v as
  | .non, v, as, k, h => by simp only [Rep] at h ⊢; exact h
  | .bl b, v, as, k, h => by simp only [Rep] at h ⊢; exact h
  | .int i, v, as, k, h => by simp only [Rep] at h ⊢; exact h
  | .str x, v, as, k, h => by simp only [Rep] at h ⊢; exact h
  | .ty n, v, as, k, h => by simp only [Rep] at h ⊢; exact h
  | .fn x, v, as, k, h => by simp only [Rep] at h ⊢; exact h
  | .tup ds, v, as, k, h => by
    simp only [Rep] at h ⊢
    obtain ⟨e, a, vs, ev, hs, hr⟩ := h
    exact ⟨e, a, vs, ev, l.seqT hs, ReL.mono l ds vs [] (fun _ z => absurd z (by simp)) hr⟩
  | .lst .own ds, v, as, k, h => by
    simp only [Rep] at h ⊢
    obtain ⟨a, vs, bs, ev, e, hs, hr⟩ := h
    subst e
    exact ⟨a, vs, bs, ev, rfl, k a List.mem_cons_self _ hs, ReL.mono l ds vs bs (fun b hb => k b (List.mem_cons_of_mem _ hb)) hr⟩
  | .lst .fro ds, v, as, k, h => by
    simp only [Rep] at h ⊢
    obtain ⟨e, a, vs, ev, hs, hr⟩ := h
    exact ⟨e, a, vs, ev, l _ _ hs, ReL.mono l ds vs [] (fun _ z => absurd z (by simp)) hr⟩
  | .lst .ext ds, v, as, k, h => by
    simp only [Rep] at h ⊢
    obtain ⟨e, a, vs, ev, hs, hr⟩ := h
    exact ⟨e, a, vs, ev, l.seqL hs, ReL.mono l ds vs [] (fun _ z => absurd z (by simp)) hr⟩
  | .dic .own ks ds, v, as, k, h => by
    simp only [Rep] at h ⊢
    obtain ⟨a, kvs, bs, ev, e, hs, hk, hr⟩ := h
    subst e
    exact ⟨a, kvs, bs, ev, rfl, k a List.mem_cons_self _ hs, hk, ReL.mono l ds _ bs (fun b hb => k b (List.mem_cons_of_mem _ hb)) hr⟩
  | .dic .fro ks ds, v, as, k, h => by
    simp only [Rep] at h ⊢
    obtain ⟨e, a, kvs, ev, hs, hk, hr⟩ := h
    exact ⟨e, a, kvs, ev, l _ _ hs, hk, ReL.mono l ds _ [] (fun _ z => absurd z (by simp)) hr⟩
  | .dic .ext ks ds, v, as, k, h => by
    simp only [Rep] at h ⊢
    obtain ⟨e, a, kvs, ev, hs, hk, hr⟩ := h
    exact ⟨e, a, kvs, ev, l _ _ hs, hk, ReL.mono l ds _ [] (fun _ z => absurd z (by simp)) hr⟩
theorem ReL.mono (l : Le F F') : ∀ (ds : List D) (vs : List V) (as : List Addr), (∀ a ∈ as, ∀ o, H a = some o → H' a = some o) → ReL K mg F H ds vs as → ReL K mg F' H' ds vs as
  | [], vs, as, k, h => by simp only [ReL] at h ⊢; exact h
  | d :: ds, vs, as, k, h => by
    simp only [ReL] at h ⊢
    obtain ⟨v, r, a1, a2, ev, e, h1, h2⟩ := h
    subst e
    exact ⟨v, r, a1, a2, ev, rfl, Rep.mono l d v a1 (fun a z => k a (List.mem_append_left _ z)) h1, ReL.mono l ds r a2 (fun a z => k a (List.mem_append_right _ z)) h2⟩
end
theorem EL.mono (l : Le F F') : ∀ (e : En) (σ : St) (as : List Addr), (∀ a ∈ as, ∀ o, H a = some o → H' a = some o) → EL K mg F H e σ as → EL K mg F' H' e σ as
  | [], σ, as, k, h => by simp only [EL] at h ⊢; exact h
  | none :: e, σ, as, k, h => by
    simp only [EL] at h ⊢
    obtain ⟨o, r, es, h⟩ := h
    exact ⟨o, r, es, EL.mono l e r as k h⟩
  | some d :: e, σ, as, k, h => by
    simp only [EL] at h ⊢
    obtain ⟨v, r, a1, a2, ev, ee, h1, h2⟩ := h
    subst ee
    exact ⟨v, r, a1, a2, ev, rfl, Rep.mono l d v a1 (fun a z => k a (List.mem_append_left _ z)) h1, EL.mono l e r a2 (fun a z => k a (List.mem_append_right _ z)) h2⟩

mutual
/-- what is owned stands in the heap -/
theorem Rep.live : ∀ (d : D) (v : V) (as : List Addr), Rep K mg F H d v as → ∀ a ∈ as, ∃ o, H a = some o
  | .lst .own ds, v, as, h, b, hb => by
    simp only [Rep] at h
    obtain ⟨a, vs, bs, ev, e, hs, hr⟩ := h
    subst e
    rcases List.mem_cons.mp hb with z | z
    · exact ⟨_, by rw [z]; exact hs⟩
    · exact ReL.live ds vs bs hr b z
  | .dic .own ks ds, v, as, h, b, hb => by
    simp only [Rep] at h
    obtain ⟨a, kvs, bs, ev, e, hs, hk, hr⟩ := h
    subst e
    rcases List.mem_cons.mp hb with z | z
    · exact ⟨_, by rw [z]; exact hs⟩
    · exact ReL.live ds _ bs hr b z
  | .non, v, as, h, b, hb => by simp only [Rep] at h; rw [h.2] at hb; exact absurd hb (by simp)
  | .bl _, v, as, h, b, hb => by simp only [Rep] at h; rw [h.2] at hb; exact absurd hb (by simp)
  | .int _, v, as, h, b, hb => by simp only [Rep] at h; rw [h.2] at hb; exact absurd hb (by simp)
  | .str _, v, as, h, b, hb => by simp only [Rep] at h; rw [h.2] at hb; exact absurd hb (by simp)
  | .ty _, v, as, h, b, hb => by simp only [Rep] at h; rw [h.2] at hb; exact absurd hb (by simp)
  | .fn _, v, as, h, b, hb => by simp only [Rep] at h; rw [h.1] at hb; exact absurd hb (by simp)
  | .tup _, v, as, h, b, hb => by simp only [Rep] at h; rw [h.1] at hb; exact absurd hb (by simp)
  | .lst .fro _, v, as, h, b, hb => by simp only [Rep] at h; rw [h.1] at hb; exact absurd hb (by simp)
  | .lst .ext _, v, as, h, b, hb => by simp only [Rep] at h; rw [h.1] at hb; exact absurd hb (by simp)
  | .dic .fro _ _, v, as, h, b, hb => by simp only [Rep] at h; rw [h.1] at hb; exact absurd hb (by simp)
  | .dic .ext _ _, v, as, h, b, hb => by simp only [Rep] at h; rw [h.1] at hb; exact absurd hb (by simp)
theorem ReL.live : ∀ (ds : List D) (vs : List V) (as : List Addr), ReL K mg F H ds vs as → ∀ a ∈ as, ∃ o, H a = some o
  | [], vs, as, h, b, hb => by simp only [ReL] at h; rw [h.2] at hb; exact absurd hb (by simp)
  | d :: ds, vs, as, h, b, hb => by
    simp only [ReL] at h
    obtain ⟨v, r, a1, a2, ev, e, h1, h2⟩ := h
    subst e
    rcases List.mem_append.mp hb with z | z
    · exact Rep.live d v a1 h1 b z
    · exact ReL.live ds r a2 h2 b z
end
theorem EL.live : ∀ (e : En) (σ : St) (as : List Addr), EL K mg F H e σ as → ∀ a ∈ as, ∃ o, H a = some o
  | [], σ, as, h, b, hb => by simp only [EL] at h; rw [h.2] at hb; exact absurd hb (by simp)
  | none :: e, σ, as, h, b, hb => by
    simp only [EL] at h
    obtain ⟨o, r, es, h⟩ := h
    exact EL.live e r as h b hb
  | some d :: e, σ, as, h, b, hb => by
    simp only [EL] at h
    obtain ⟨v, r, a1, a2, ev, ee, h1, h2⟩ := h
    subst ee
    rcases List.mem_append.mp hb with z | z
    · exact Rep.live d v a1 h1 b z
    · exact EL.live e r a2 h2 b z

/-- what is not owned owns nothing -/
theorem Rep.bare : ∀ {d : D} {v : V} {as : List Addr}, owned d = false → Rep K mg F H d v as → as = []
  | .lst .own _, _, _, h, _ => by simp [owned] at h
  | .dic .own _ _, _, _, h, _ => by simp [owned] at h
  | .non, _, _, _, h => by simp only [Rep] at h; exact h.2
  | .bl _, _, _, _, h => by simp only [Rep] at h; exact h.2
  | .int _, _, _, _, h => by simp only [Rep] at h; exact h.2
  | .str _, _, _, _, h => by simp only [Rep] at h; exact h.2
  | .ty _, _, _, _, h => by simp only [Rep] at h; exact h.2
  | .fn _, _, _, _, h => by simp only [Rep] at h; exact h.1
  | .tup _, _, _, _, h => by simp only [Rep] at h; exact h.1
  | .lst .fro _, _, _, _, h => by simp only [Rep] at h; exact h.1
  | .lst .ext _, _, _, _, h => by simp only [Rep] at h; exact h.1
  | .dic .fro _ _, _, _, _, h => by simp only [Rep] at h; exact h.1
  | .dic .ext _ _, _, _, _, h => by simp only [Rep] at h; exact h.1
theorem ReL.bare : ∀ {ds : List D} {vs : List V} {as : List Addr}, plainL ds = true → ReL K mg F H ds vs as → as = []
  | [], _, _, _, h => by simp only [ReL] at h; exact h.2
  | d :: ds, _, _, p, h => by
    simp only [ReL] at h
    obtain ⟨v, r, a1, a2, ev, e, h1, h2⟩ := h
    simp only [plainL, Bool.and_eq_true, Bool.not_eq_true'] at p
    rw [e, Rep.bare p.1 h1, ReL.bare p.2 h2]
    rfl

mutual
/-- freezing: G has all that F has, and what is owned as it stands -/
theorem Rep.freeze {G : Hp} (l : Le F G) : ∀ (d : D) (v : V) (as : List Addr), (∀ a ∈ as, ∀ o, H a = some o → G a = some o) → Rep K mg F H d v as → Rep K mg G H (frz d) v []
  | .lst .own ds, v, as, k, h => by
    simp only [Rep] at h
    obtain ⟨a, vs, bs, ev, e, hs, hr⟩ := h
    subst e
    simp only [frz, Rep]
    exact ⟨trivial, a, vs, ev, k a List.mem_cons_self _ hs, ReL.freeze l ds vs bs (fun b hb => k b (List.mem_cons_of_mem _ hb)) hr⟩
  | .dic .own ks ds, v, as, k, h => by
    simp only [Rep] at h
    obtain ⟨a, kvs, bs, ev, e, hs, hk, hr⟩ := h
    subst e
    simp only [frz, Rep]
    exact ⟨trivial, a, kvs, ev, k a List.mem_cons_self _ hs, hk, ReL.freeze l ds _ bs (fun b hb => k b (List.mem_cons_of_mem _ hb)) hr⟩
  | .non, v, as, k, h => by simp only [Rep] at h; simp only [frz, Rep]; exact ⟨h.1, trivial⟩
  | .bl _, v, as, k, h => by simp only [Rep] at h; simp only [frz, Rep]; exact ⟨h.1, trivial⟩
  | .int _, v, as, k, h => by simp only [Rep] at h; simp only [frz, Rep]; exact ⟨h.1, trivial⟩
  | .str _, v, as, k, h => by simp only [Rep] at h; simp only [frz, Rep]; exact ⟨h.1, trivial⟩
  | .ty _, v, as, k, h => by simp only [Rep] at h; simp only [frz, Rep]; exact ⟨h.1, trivial⟩
  | .fn _, v, as, k, h => by simp only [Rep] at h; simp only [frz, Rep]; exact ⟨trivial, h.2⟩
  | .tup ds, v, as, k, h => by rw [Rep.bare rfl h] at h; exact Rep.mono l _ _ _ (fun _ z => absurd z (by simp)) h
  | .lst .fro ds, v, as, k, h => by rw [Rep.bare rfl h] at h; exact Rep.mono l _ _ _ (fun _ z => absurd z (by simp)) h
  | .lst .ext ds, v, as, k, h => by rw [Rep.bare rfl h] at h; exact Rep.mono l _ _ _ (fun _ z => absurd z (by simp)) h
  | .dic .fro _ _, v, as, k, h => by rw [Rep.bare rfl h] at h; exact Rep.mono l _ _ _ (fun _ z => absurd z (by simp)) h
  | .dic .ext _ _, v, as, k, h => by rw [Rep.bare rfl h] at h; exact Rep.mono l _ _ _ (fun _ z => absurd z (by simp)) h
theorem ReL.freeze {G : Hp} (l : Le F G) : ∀ (ds : List D) (vs : List V) (as : List Addr), (∀ a ∈ as, ∀ o, H a = some o → G a = some o) → ReL K mg F H ds vs as → ReL K mg G H (frzL ds) vs []
  | [], vs, as, k, h => by simp only [ReL] at h; simp only [frzL, ReL]; exact ⟨h.1, trivial⟩
  | d :: ds, vs, as, k, h => by
    simp only [ReL] at h
    obtain ⟨v, r, a1, a2, ev, e, h1, h2⟩ := h
    subst e
    simp only [frzL, ReL]
    exact ⟨v, r, [], [], ev, rfl, Rep.freeze l d v a1 (fun a z => k a (List.mem_append_left _ z)) h1, ReL.freeze l ds r a2 (fun a z => k a (List.mem_append_right _ z)) h2⟩
end
/-- F, and what stands at as -/
def frzAt (F H : Hp) (as : List Addr) : Hp := fun b => if b ∈ as then H b else F b
theorem frzAt_in {as : List Addr} {a : Addr} (h : a ∈ as) : frzAt F H as a = H a := if_pos h
theorem frzAt_out {as : List Addr} {a : Addr} (h : a ∉ as) : frzAt F H as a = F a := if_neg h
theorem frzAt_le {as : List Addr} (s : Le F H) : Le F (frzAt F H as) := fun a o h => by
  by_cases q : a ∈ as
  · rw [frzAt_in q]; exact s a o h
  · rw [frzAt_out q]; exact h
theorem frzAt_sub {as : List Addr} (s : Le F H) : Le (frzAt F H as) H := fun a o h => by
  by_cases q : a ∈ as
  · rw [frzAt_in q] at h; exact h
  · rw [frzAt_out q] at h; exact s a o h

/-! ### lists of data: lengths, places -/
theorem ReL.length : ∀ {ds : List D} {vs : List V} {as : List Addr}, ReL K mg F H ds vs as → ds.length = vs.length
  | [], vs, as, h => by simp only [ReL] at h; rw [h.1]; rfl
  | d :: ds, vs, as, h => by
    simp only [ReL] at h
    obtain ⟨v, r, a1, a2, ev, e, h1, h2⟩ := h
    rw [ev, List.length_cons, List.length_cons, ReL.length h2]
theorem EL.length : ∀ {e : En} {σ : St} {as : List Addr}, EL K mg F H e σ as → e.length = σ.length
  | [], σ, as, h => by simp only [EL] at h; rw [h.1]; rfl
  | none :: e, σ, as, h => by
    simp only [EL] at h
    obtain ⟨o, r, es, h⟩ := h
    rw [es, List.length_cons, List.length_cons, EL.length h]
  | some d :: e, σ, as, h => by
    simp only [EL] at h
    obtain ⟨v, r, a1, a2, ev, ee, h1, h2⟩ := h
    rw [ev, List.length_cons, List.length_cons, EL.length h2]
/-- one place: what it owns, what the others own, and another datum there -/
theorem ReL.at : ∀ {ds : List D} {vs : List V} {as : List Addr} {j : Nat} {d : D}, ReL K mg F H ds vs as → ds[j]? = some d →
    ∃ v pre a1 post, vs[j]? = some v ∧ as = pre ++ a1 ++ post ∧ Rep K mg F H d v a1 ∧
      ∀ (F' H' : Hp) (d' : D) (v' : V) (a' : List Addr), Le F F' → (∀ a ∈ pre ++ post, ∀ o, H a = some o → H' a = some o) → Rep K mg F' H' d' v' a' → ReL K mg F' H' (ds.set j d') (vs.set j v') (pre ++ a' ++ post)
  | [], vs, as, j, d, h, hj => by simp at hj
  | d0 :: ds, vs, as, 0, d, h, hj => by
    simp only [ReL] at h
    obtain ⟨v, r, a1, a2, ev, e, h1, h2⟩ := h
    have q : d0 = d := by simpa using hj
    subst q
    subst ev
    refine ⟨v, [], a1, a2, rfl, by rw [e]; rfl, h1, fun F' H' d' v' a' l k h' => ?_⟩
    rw [List.set_cons_zero, List.set_cons_zero]
    simp only [ReL]
    exact ⟨v', r, a', a2, rfl, by simp, h', ReL.mono l ds r a2 (fun a z => k a (by simpa using z)) h2⟩
  | d0 :: ds, vs, as, j + 1, d, h, hj => by
    simp only [ReL] at h
    obtain ⟨v, r, a1, a2, ev, e, h1, h2⟩ := h
    subst ev
    obtain ⟨w, pre, b1, post, q1, q2, q3, q4⟩ := ReL.at (j := j) (d := d) h2 (by simpa using hj)
    refine ⟨w, a1 ++ pre, b1, post, by simpa using q1, by rw [e, q2]; simp, q3, fun F' H' d' v' a' l k h' => ?_⟩
    rw [List.set_cons_succ, List.set_cons_succ]
    simp only [ReL]
    refine ⟨v, r.set j v', a1, pre ++ a' ++ post, rfl, by simp, Rep.mono l d0 v a1 (fun a z => k a (by simp [z])) h1, q4 F' H' d' v' a' l (fun a z => k a ?_) h'⟩
    rcases List.mem_append.mp z with z | z <;> simp [z]
/-- one slot -/
theorem EL.at : ∀ {e : En} {σ : St} {as : List Addr} {i : Nat} {d : D}, EL K mg F H e σ as → getE e i = some d →
    ∃ v pre a1 post, σ[i]? = some (some v) ∧ as = pre ++ a1 ++ post ∧ Rep K mg F H d v a1 ∧
      ∀ (F' H' : Hp) (d' : D) (v' : V) (a' : List Addr), Le F F' → (∀ a ∈ pre ++ post, ∀ o, H a = some o → H' a = some o) → Rep K mg F' H' d' v' a' → EL K mg F' H' (e.set i (some d')) (σ.set i (some v')) (pre ++ a' ++ post)
  | [], σ, as, i, d, h, hj => by simp [getE] at hj
  | none :: e, σ, as, 0, d, h, hj => by simp [getE] at hj
  | some d0 :: e, σ, as, 0, d, h, hj => by
    simp only [EL] at h
    obtain ⟨v, r, a1, a2, ev, ee, h1, h2⟩ := h
    have q : d0 = d := by simpa [getE] using hj
    subst q
    subst ev
    refine ⟨v, [], a1, a2, rfl, by rw [ee]; rfl, h1, fun F' H' d' v' a' l k h' => ?_⟩
    rw [List.set_cons_zero, List.set_cons_zero]
    simp only [EL]
    exact ⟨v', r, a', a2, rfl, by simp, h', EL.mono l e r a2 (fun a z => k a (by simpa using z)) h2⟩
  | none :: e, σ, as, i + 1, d, h, hj => by
    simp only [EL] at h
    obtain ⟨o, r, es, h⟩ := h
    subst es
    obtain ⟨w, pre, b1, post, q1, q2, q3, q4⟩ := EL.at (i := i) (d := d) h (by simpa [getE] using hj)
    refine ⟨w, pre, b1, post, by simpa using q1, q2, q3, fun F' H' d' v' a' l k h' => ?_⟩
    rw [List.set_cons_succ, List.set_cons_succ]
    simp only [EL]
    exact ⟨o, r.set i (some v'), rfl, q4 F' H' d' v' a' l k h'⟩
  | some d0 :: e, σ, as, i + 1, d, h, hj => by
    simp only [EL] at h
    obtain ⟨v, r, a1, a2, ev, ee, h1, h2⟩ := h
    subst ev
    obtain ⟨w, pre, b1, post, q1, q2, q3, q4⟩ := EL.at (i := i) (d := d) h2 (by simpa [getE] using hj)
    refine ⟨w, a1 ++ pre, b1, post, by simpa using q1, by rw [ee, q2]; simp, q3, fun F' H' d' v' a' l k h' => ?_⟩
    rw [List.set_cons_succ, List.set_cons_succ]
    simp only [EL]
    refine ⟨v, r.set i (some v'), a1, pre ++ a' ++ post, rfl, by simp, Rep.mono l d0 v a1 (fun a z => k a (by simp [z])) h1, q4 F' H' d' v' a' l (fun a z => k a ?_) h'⟩
    rcases List.mem_append.mp z with z | z <;> simp [z]
/-- a slot is stored, whatever was in it -/
theorem EL.put : ∀ {e : En} {σ : St} {as : List Addr} {i : Nat}, EL K mg F H e σ as → i < e.length →
    ∃ pre a1 post, as = pre ++ a1 ++ post ∧ ∀ (d' : D) (v' : V) (a' : List Addr), Rep K mg F H d' v' a' → EL K mg F H (e.set i (some d')) (σ.set i (some v')) (pre ++ a' ++ post)
  | [], σ, as, i, h, hj => by simp at hj
  | none :: e, σ, as, 0, h, hj => by
    simp only [EL] at h
    obtain ⟨o, r, es, h⟩ := h
    subst es
    refine ⟨[], [], as, rfl, fun d' v' a' h' => ?_⟩
    rw [List.set_cons_zero, List.set_cons_zero]
    simp only [EL]
    exact ⟨v', r, a', as, rfl, by simp, h', h⟩
  | some d0 :: e, σ, as, 0, h, hj => by
    simp only [EL] at h
    obtain ⟨v, r, a1, a2, ev, ee, h1, h2⟩ := h
    subst ev
    refine ⟨[], a1, a2, by rw [ee]; rfl, fun d' v' a' h' => ?_⟩
    rw [List.set_cons_zero, List.set_cons_zero]
    simp only [EL]
    exact ⟨v', r, a', a2, rfl, by simp, h', h2⟩
  | none :: e, σ, as, i + 1, h, hj => by
    simp only [EL] at h
    obtain ⟨o, r, es, h⟩ := h
    subst es
    obtain ⟨pre, b1, post, q2, q4⟩ := EL.put (i := i) h (by simpa using hj)
    refine ⟨pre, b1, post, q2, fun d' v' a' h' => ?_⟩
    rw [List.set_cons_succ, List.set_cons_succ]
    simp only [EL]
    exact ⟨o, r.set i (some v'), rfl, q4 d' v' a' h'⟩
  | some d0 :: e, σ, as, i + 1, h, hj => by
    simp only [EL] at h
    obtain ⟨v, r, a1, a2, ev, ee, h1, h2⟩ := h
    subst ev
    obtain ⟨pre, b1, post, q2, q4⟩ := EL.put (i := i) h2 (by simpa using hj)
    refine ⟨a1 ++ pre, b1, post, by rw [ee, q2]; simp, fun d' v' a' h' => ?_⟩
    rw [List.set_cons_succ, List.set_cons_succ]
    simp only [EL]
    exact ⟨v, r.set i (some v'), a1, pre ++ a' ++ post, rfl, by simp, h1, q4 d' v' a' h'⟩
/-- a slot is forgotten -/
theorem EL.drop : ∀ {e : En} {σ : St} {as : List Addr} (i : Nat), EL K mg F H e σ as → ∃ pre a1 post, as = pre ++ a1 ++ post ∧ (∀ d, getE e i = some d → owned d = false → a1 = []) ∧
    (∀ d, getE e i = some d → ∃ v, σ[i]? = some (some v) ∧ Rep K mg F H d v a1) ∧ ∀ o, EL K mg F H (e.set i none) (σ.set i o) (pre ++ post)
  | [], σ, as, i, h => by
    refine ⟨as, [], [], by simp, fun d hd _ => rfl, fun d hd => by simp [getE] at hd, fun o => ?_⟩
    simp only [EL] at h
    simp only [List.set_nil, EL]
    rw [h.1, h.2]
    exact ⟨rfl, rfl⟩
  | none :: e, σ, as, 0, h => by
    refine ⟨as, [], [], by simp, fun d hd _ => rfl, fun d hd => by simp [getE] at hd, fun o => ?_⟩
    simp only [EL] at h
    obtain ⟨o', r, es, h⟩ := h
    subst es
    rw [List.set_cons_zero, List.set_cons_zero]
    simp only [EL]
    exact ⟨o, r, rfl, by simpa using h⟩
  | some d0 :: e, σ, as, 0, h => by
    simp only [EL] at h
    obtain ⟨v, r, a1, a2, ev, ee, h1, h2⟩ := h
    subst ev
    refine ⟨[], a1, a2, by rw [ee]; rfl, fun d hd hp => ?_, fun d hd => ?_, fun o => ?_⟩
    · have q : d0 = d := by simpa [getE] using hd
      subst q
      exact Rep.bare hp h1
    · have q : d0 = d := by simpa [getE] using hd
      subst q
      exact ⟨v, rfl, h1⟩
    · rw [List.set_cons_zero, List.set_cons_zero]
      simp only [EL]
      exact ⟨o, r, rfl, h2⟩
  | none :: e, σ, as, i + 1, h => by
    simp only [EL] at h
    obtain ⟨o', r, es, h⟩ := h
    subst es
    obtain ⟨pre, b1, post, q2, q3, q5, q4⟩ := EL.drop (σ := r) i h
    refine ⟨pre, b1, post, q2, fun d hd => q3 d (by simpa [getE] using hd), fun d hd => q5 d (by simpa [getE] using hd), fun o => ?_⟩
    rw [List.set_cons_succ, List.set_cons_succ]
    simp only [EL]
    exact ⟨o', r.set i o, rfl, q4 o⟩
  | some d0 :: e, σ, as, i + 1, h => by
    simp only [EL] at h
    obtain ⟨v, r, a1, a2, ev, ee, h1, h2⟩ := h
    subst ev
    obtain ⟨pre, b1, post, q2, q3, q5, q4⟩ := EL.drop (σ := r) i h2
    refine ⟨a1 ++ pre, b1, post, by rw [ee, q2]; simp, fun d hd => q3 d (by simpa [getE] using hd), fun d hd => q5 d (by simpa [getE] using hd), fun o => ?_⟩
    rw [List.set_cons_succ, List.set_cons_succ]
    simp only [EL]
    exact ⟨v, r.set i o, a1, pre ++ post, rfl, by simp, h1, q4 o⟩

/-! ### as the library's data -/
mutual
theorem Rep.dp (s : Le F H) : ∀ {d : D} {v : V} {as : List Addr} {p : PyData}, Rep K mg F H d v as → toPy d = some p → Dp K H v p
  | .non, v, as, p, h, e => by
    simp only [Rep] at h; simp only [toPy, Option.some.injEq] at e; rw [h.1, ← e]; exact .non
  | .bl b, v, as, p, h, e => by
    simp only [Rep] at h; simp only [toPy, Option.some.injEq] at e; rw [h.1, ← e]; exact .bl b
  | .int b, v, as, p, h, e => by
    simp only [Rep] at h; simp only [toPy, Option.some.injEq] at e; rw [h.1, ← e]; exact .int b
  | .str b, v, as, p, h, e => by
    simp only [Rep] at h; simp only [toPy, Option.some.injEq] at e; rw [h.1, ← e]; exact .str b
  | .ty _, v, as, p, h, e => by simp [toPy] at e
  | .fn _, v, as, p, h, e => by simp [toPy] at e
  | .dic _ _ _, v, as, p, h, e => by simp [toPy] at e
  | .tup ds, v, as, p, h, e => by
    simp only [Rep] at h
    obtain ⟨_, a, vs, ev, hs, hr⟩ := h
    simp only [toPy] at e
    split at e
    · rename_i xs q
      cases e
      subst ev
      exact .tup (s.seqT hs) (ReL.dp s hr q)
    · cases e
  | .lst .own ds, v, as, p, h, e => by
    simp only [Rep] at h
    obtain ⟨a, vs, bs, ev, _, hs, hr⟩ := h
    simp only [toPy] at e
    split at e
    · rename_i xs q
      cases e
      subst ev
      exact .lst (.of hs) (ReL.dp s hr q)
    · cases e
  | .lst .fro ds, v, as, p, h, e => by
    simp only [Rep] at h
    obtain ⟨_, a, vs, ev, hs, hr⟩ := h
    simp only [toPy] at e
    split at e
    · rename_i xs q
      cases e
      subst ev
      exact .lst (.of (s _ _ hs)) (ReL.dp s hr q)
    · cases e
  | .lst .ext ds, v, as, p, h, e => by
    simp only [Rep] at h
    obtain ⟨_, a, vs, ev, hs, hr⟩ := h
    simp only [toPy] at e
    split at e
    · rename_i xs q
      cases e
      subst ev
      exact .lst (s.seqL hs) (ReL.dp s hr q)
    · cases e
theorem ReL.dp (s : Le F H) : ∀ {ds : List D} {vs : List V} {as : List Addr} {ps : List PyData}, ReL K mg F H ds vs as → toPyL ds = some ps → DpAll K H vs ps
  | [], vs, as, ps, h, e => by
    simp only [ReL] at h; simp only [toPyL, Option.some.injEq] at e; rw [h.1, ← e]; exact .nil
  | d :: ds, vs, as, ps, h, e => by
    simp only [ReL] at h
    obtain ⟨v, r, a1, a2, ev, ee, h1, h2⟩ := h
    simp only [toPyL] at e
    split at e
    · rename_i x xs q1 q2
      cases e
      subst ev
      exact .cons (Rep.dp s h1 q1) (ReL.dp s h2 q2)
    · cases e
end
end
end Ev

set_option Elab.async false
set_option linter.all false
set_option maxRecDepth 100000
/-! Ev5: steps of the heap, states, what is to be shown of an expression. -/
namespace Ev
open PySem L2

/-- from H to H': what stands outside B is kept; B': what may be touched from then on -/
structure Step (B : List Addr) (H F : Hp) (B' : List Addr) (H' F' : Hp) : Prop where
  le : Le F F'
  keep : ∀ a o, H a = some o → a ∉ B → H' a = some o
  live : ∀ a, H a ≠ none → H' a ≠ none
  own : ∀ a ∈ B', a ∈ B ∨ H a = none
  fr : ∀ a, F' a ≠ none → F a ≠ none ∨ a ∈ B ∨ H a = none
theorem Step.refl {B B' : List Addr} {H F : Hp} (h : ∀ a ∈ B', a ∈ B) : Step B H F B' H F :=
  ⟨Le.refl F, fun _ _ e _ => e, fun _ z => z, fun a z => .inl (h a z), fun _ z => .inl z⟩
theorem Step.trans {B B1 B2 : List Addr} {H F H1 F1 H2 F2 : Hp} (a : Step B H F B1 H1 F1) (b : Step B1 H1 F1 B2 H2 F2) : Step B H F B2 H2 F2 := by
  have back : ∀ x, H1 x = none → H x = none := fun x z => by
    cases q : H x with
    | none => rfl
    | some o => exact absurd z (a.live x (by rw [q]; simp))
  refine ⟨a.le.trans b.le, fun x o e n => b.keep x o (a.keep x o e n) fun z => ?_, fun x z => b.live x (a.live x z), fun x z => ?_, fun x z => ?_⟩
  · rcases a.own x z with q | q
    · exact n q
    · rw [q] at e; cases e
  · rcases b.own x z with q | q
    · exact a.own x q
    · exact .inr (back x q)
  · rcases b.fr x z with q | q | q
    · exact a.fr x q
    · exact .inr (a.own x q)
    · exact .inr (.inr (back x q))
theorem Step.frame {B B' : List Addr} {H F H' F' : Hp} (T : List Addr) (a : Step B H F B' H' F') : Step (T ++ B) H F (T ++ B') H' F' := by
  refine ⟨a.le, fun x o e n => a.keep x o e fun z => n (List.mem_append_right _ z), a.live, fun x z => ?_, fun x z => ?_⟩
  · rcases List.mem_append.mp z with q | q
    · exact .inl (List.mem_append_left _ q)
    · exact (a.own x q).imp (List.mem_append_right _) id
  · exact (a.fr x z).imp id (Or.imp (List.mem_append_right _) id)
theorem Step.more {B C B' : List Addr} {H F H' F' : Hp} (a : Step B H F B' H' F') (h : ∀ x ∈ B, x ∈ C) : Step C H F B' H' F' :=
  ⟨a.le, fun x o e n => a.keep x o e fun z => n (h x z), a.live, fun x z => (a.own x z).imp (h x) id, fun x z => (a.fr x z).imp id (Or.imp (h x) id)⟩
theorem Step.less {B C B' : List Addr} {H F H' F' : Hp} (a : Step B H F B' H' F') (h : ∀ x ∈ C, x ∈ B') : Step B H F C H' F' :=
  ⟨a.le, a.keep, a.live, fun x z => a.own x (h x z), a.fr⟩
/-- a new object -/
theorem Step.new {B : List Addr} {H F : Hp} {p : Addr} {o : HO} (h : H p = none) : Step B H F (p :: B) (upd H p o) F :=
  ⟨Le.refl F, fun x u e _ => by rw [upd_ne (ne_of_none e h)]; exact e, fun x z => by
    by_cases q : x = p
    · subst q; rw [upd_same]; simp
    · rw [upd_ne q]; exact z, fun x z => (List.mem_cons.mp z).elim (fun q => .inr (by rw [q]; exact h)) .inl, fun _ z => .inl z⟩
/-- a new object that is not written again -/
theorem Step.newF {B : List Addr} {H F : Hp} {p : Addr} {o : HO} (h : H p = none) (hf : F p = none) : Step B H F B (upd H p o) (upd F p o) :=
  ⟨fun x u e => by rw [upd_ne (ne_of_none e hf)]; exact e, fun x u e _ => by rw [upd_ne (ne_of_none e h)]; exact e, fun x z => by
    by_cases q : x = p
    · subst q; rw [upd_same]; simp
    · rw [upd_ne q]; exact z, fun x z => .inl z, fun x z => by
    by_cases q : x = p
    · exact .inr (.inr (by rw [q]; exact h))
    · rw [upd_ne q] at z; exact .inl z⟩
/-- an owned object is written -/
theorem Step.write {B : List Addr} {H F : Hp} {p : Addr} {o : HO} (h : p ∈ B) : Step B H F B (upd H p o) F :=
  ⟨Le.refl F, fun x u e n => by rw [upd_ne (fun q => n (by rw [q]; exact h))]; exact e, fun x z => by
    by_cases q : x = p
    · subst q; rw [upd_same]; simp
    · rw [upd_ne q]; exact z, fun x z => .inl z, fun _ z => .inl z⟩
/-- what is owned is frozen -/
theorem Step.freeze {B as B' : List Addr} {H F : Hp} (s : Le F H) (h : ∀ a ∈ as, a ∈ B) (h' : ∀ a ∈ B', a ∈ B) : Step B H F B' H (frzAt F H as) :=
  ⟨frzAt_le s, fun _ _ e _ => e, fun _ z => z, fun a z => .inl (h' a z), fun a z => by
    by_cases q : a ∈ as
    · exact .inr (.inl (h a q))
    · rw [frzAt_out q] at z; exact .inl z⟩

structure Sta (K : PySem.W.Frag) (mg : Str → Option Value) (F H : Hp) (σ : St) (e : En) (A : List Addr) : Prop where
  sub : Le F H
  el : EL K mg F H e σ A
  nd : A.Nodup
  no : ∀ a ∈ A, F a = none
theorem Sta.live {K : PySem.W.Frag} {mg : Str → Option Value} {F H : Hp} {σ : St} {e : En} {A : List Addr} (S : Sta K mg F H σ e A) {a : Addr} (h : a ∈ A) : H a ≠ none := by
  obtain ⟨o, q⟩ := EL.live e σ A S.el a h
  rw [q]; simp
theorem Sta.fresh {K : PySem.W.Frag} {mg : Str → Option Value} {F H : Hp} {σ : St} {e : En} {A : List Addr} (S : Sta K mg F H σ e A) {p : Addr} (h : H p = none) : F p = none := by
  cases q : F p with
  | none => rfl
  | some o => rw [S.sub p o q] at h; cases h
/-- the state behind a step that does not touch it -/
theorem Sta.past {K : PySem.W.Frag} {mg : Str → Option Value} {F H F' H' : Hp} {σ : St} {e : En} {A : List Addr} (S : Sta K mg F H σ e A) (s' : Le F' H') (l : Le F F') (k : ∀ a ∈ A, ∀ o, H a = some o → H' a = some o) (n : ∀ a ∈ A, F' a = none) :
    Sta K mg F' H' σ e A := ⟨s', EL.mono l e σ A k S.el, S.nd, n⟩

/-- the value at the end of a road -/
def PathV (H : Hp) : V → List Nat → V → Prop
  | v0, [], v => v = v0
  | v0, j :: p, v => ∃ a vs v1, v0 = .ref a ∧ H a = some (.lst vs) ∧ vs[j]? = some v1 ∧ PathV H v1 p v
def HanV (H : Hp) (σ : St) (i : Nat) (p : List Nat) (v : V) : Prop := ∃ v0, σ[i]? = some (some v0) ∧ PathV H v0 p v
def ResV (K : PySem.W.Frag) (mg : Str → Option Value) (F H : Hp) (σ : St) (A : List Addr) (v : V) : RV → List Addr → Prop
  | .val d, as => Rep K mg F H d v as ∧ as.Nodup ∧ ∀ a ∈ as, a ∉ A ∧ F a = none
  | .han i p, as => as = [] ∧ HanV H σ i p v
def flat : RV → Bool
  | .val _ => true
  | .han _ p => p.isEmpty

/-- an exception on its way: nothing is let out as yet -/
structure ErrP (W : WX) (σ : St) (B : List Addr) (H F : Hp) (c : Str) (fs : List (Str × D)) (e : En) : Prop where
  no : False
theorem ErrP.past {W : WX} {σ : St} {B B' : List Addr} {H F H' F' : Hp} {c : Str} {fs : List (Str × D)} {e : En} (st : Step B H F B' H' F') (h : ErrP W σ B H F c fs e) : ErrP W σ B' H' F' c fs e := h.no.elim
theorem ErrP.before {W : WX} {σ : St} {B T A : List Addr} {H F H' F' : Hp} {c : Str} {fs : List (Str × D)} {e : En} (st : Step B H F (T ++ A) H' F') (h : ErrP W σ B H F c fs e) : ErrP W σ A H' F' c fs e := ErrP.past (st.less fun _ z => List.mem_append_right _ z) h
def PostG {β : Type} (W : WX) (σ : St) (B : List Addr) (H F : Hp) (r : R β) (φ : β → Prop) : Prop := match r with
  | .ok b => φ b
  | .err c fs e => ErrP W σ B H F c fs e
  | .stuck => False
def OkE (K : PySem.W.Frag) (mg : Str → Option Value) (σ : St) (B : List Addr) (H F : Hp) (Q : VK) : RV × En → Prop := fun x =>
  ∀ v H' F' A' as, Step B H F (as ++ A') H' F' → Sta K mg F' H' σ x.2 A' → ResV K mg F' H' σ A' v x.1 as → Q v H'
def tE (K : PySem.W.Frag) (mg : Str → Option Value) (W : WX) (f : En → R (RV × En)) : TE := fun σ H Q =>
  ∃ e F A, Sta K mg F H σ e A ∧ PostG W σ A H F (f e) (OkE K mg σ A H F Q)
def OkT (K : PySem.W.Frag) (mg : Str → Option Value) (σ : St) (B : List Addr) (H F : Hp) (Q : Bool → Hp → Prop) : Bool × En → Prop := fun x =>
  ∀ H' F' A', Step B H F A' H' F' → Sta K mg F' H' σ x.2 A' → Q x.1 H'
def tT (K : PySem.W.Frag) (mg : Str → Option Value) (W : WX) (f : En → R (Bool × En)) : TT := fun σ H Q =>
  ∃ e F A, Sta K mg F H σ e A ∧ PostG W σ A H F (f e) (OkT K mg σ A H F Q)
/-- several values -/
def ResVs (K : PySem.W.Frag) (mg : Str → Option Value) (F H : Hp) (σ : St) (A : List Addr) : List V → List RV → List Addr → Prop
  | vs, [], as => vs = [] ∧ as = []
  | vs, rv :: rvs, as => ∃ v r a1 a2, vs = v :: r ∧ as = a1 ++ a2 ∧ flat rv = true ∧ ResV K mg F H σ A v rv a1 ∧ ResVs K mg F H σ A r rvs a2 ∧ ∀ a ∈ a1, a ∉ a2
def OkA (K : PySem.W.Frag) (mg : Str → Option Value) (σ : St) (B : List Addr) (H F : Hp) (Q : List V → Hp → Prop) : List RV × En → Prop := fun x =>
  ∀ vs H' F' A' as, Step B H F (as ++ A') H' F' → Sta K mg F' H' σ x.2 A' → ResVs K mg F' H' σ A' vs x.1 as → Q vs H'
def tA (K : PySem.W.Frag) (mg : Str → Option Value) (W : WX) (f : En → R (List RV × En)) : TA := fun σ H Q =>
  ∃ e F A, Sta K mg F H σ e A ∧ PostG W σ A H F (f e) (OkA K mg σ A H F Q)

section
variable {K : PySem.W.Frag} {mg : Str → Option Value} {F H F' H' : Hp} {σ : St} {e e' : En} {A A' B : List Addr}
/-- a value that was reckoned before stands behind a step of the state -/
theorem ResV.past {v : V} {rv : RV} {as as' : List Addr} (h : ResV K mg F H σ A v rv as) (fl : flat rv = true) (st : Step A H F (as' ++ A') H' F') : ResV K mg F' H' σ A' v rv as ∧ ∀ a ∈ as, a ∉ as' := by
  cases rv with
  | han i p =>
    obtain ⟨e, v0, h1, h2⟩ := h
    have hp : p = [] := by simpa [flat] using fl
    subst hp
    exact ⟨⟨e, v0, h1, h2⟩, fun a z => by rw [e] at z; exact absurd z (by simp)⟩
  | val d =>
    obtain ⟨h1, h2, h3⟩ := h
    have lv := Rep.live d v as h1
    have out : ∀ a ∈ as, a ∉ as' ++ A' := fun a z q => by
      rcases st.own a q with w | w
      · exact (h3 a z).1 w
      · obtain ⟨o, ho⟩ := lv a z
        rw [ho] at w; cases w
    refine ⟨⟨Rep.mono st.le d v as (fun a z o ho => st.keep a o ho (h3 a z).1) h1, h2, fun a z => ⟨fun q => out a z (List.mem_append_right _ q), ?_⟩⟩, fun a z q => out a z (List.mem_append_left _ q)⟩
    cases q : F' a with
    | none => rfl
    | some o =>
      rcases st.fr a (by rw [q]; simp) with w | w | w
      · exact absurd (h3 a z).2 w
      · exact absurd w (h3 a z).1
      · obtain ⟨o', ho⟩ := lv a z
        rw [ho] at w; cases w
theorem ResVs.past : ∀ {rvs : List RV} {vs : List V} {as as' : List Addr}, ResVs K mg F H σ A vs rvs as → Step A H F (as' ++ A') H' F' → ResVs K mg F' H' σ A' vs rvs as ∧ ∀ a ∈ as, a ∉ as'
  | [], vs, as, as', h, st => by
    simp only [ResVs] at h ⊢
    exact ⟨h, fun a z => by rw [h.2] at z; exact absurd z (by simp)⟩
  | rv :: rvs, vs, as, as', h, st => by
    simp only [ResVs] at h ⊢
    obtain ⟨v, r, a1, a2, e1, e2, fl, h1, h2, dj⟩ := h
    obtain ⟨q1, q2⟩ := h1.past fl st
    obtain ⟨q3, q4⟩ := ResVs.past h2 st
    refine ⟨⟨v, r, a1, a2, e1, e2, fl, q1, q3, dj⟩, fun a z => ?_⟩
    rw [e2] at z
    exact (List.mem_append.mp z).elim (q2 a) (q4 a)
/-- what a value holds -/
theorem path_rep : ∀ {p : List Nat} {d0 d : D} {v0 v : V} {as : List Addr}, Rep K mg F H d0 v0 as → part d0 p = some d → PathV H v0 p v → ∃ a1, Rep K mg F H d v a1 ∧ ∀ a ∈ a1, a ∈ as
  | [], d0, d, v0, v, as, h, hp, hv => by
    simp only [part, Option.some.injEq] at hp
    subst hp
    have hv' : v = v0 := hv
    subst hv'
    exact ⟨as, h, fun _ z => z⟩
  | j :: p, d0, d, v0, v, as, h, hp, hv => by
    obtain ⟨ds, e0⟩ : ∃ ds, d0 = .lst .own ds := by
      cases d0 with
      | lst m ds =>
        cases m with
        | own => exact ⟨ds, rfl⟩
        | fro => simp [part] at hp
        | ext => simp [part] at hp
      | _ => simp [part] at hp
    subst e0
    simp only [part] at hp
    split at hp
    · rename_i d1 hd
      simp only [Rep] at h
      obtain ⟨a, vs, bs, ev, ea, ha, hr⟩ := h
      obtain ⟨a', vs', v1, ev', ha', hj, hpv⟩ := hv
      rw [ev] at ev'
      cases ev'
      rw [ha] at ha'
      cases ha'
      obtain ⟨w, pre, b1, post, q1, q2, q3, _⟩ := ReL.at hr hd
      rw [hj] at q1
      cases q1
      obtain ⟨c1, r1, r2⟩ := path_rep q3 hp hpv
      refine ⟨c1, r1, fun x z => ?_⟩
      rw [ea, q2]
      simp [r2 x z]
    · cases hp
theorem ResV.content {v : V} {rv : RV} {as : List Addr} {d : D} (S : Sta K mg F H σ e A) (h : ResV K mg F H σ A v rv as) (hc : content e rv = some d) : ∃ a1, Rep K mg F H d v a1 ∧ ∀ a ∈ a1, a ∈ as ++ A := by
  cases rv with
  | val d' =>
    simp only [Ev.content, Option.some.injEq] at hc
    subst hc
    exact ⟨as, h.1, fun a z => List.mem_append_left _ z⟩
  | han i p =>
    simp only [Ev.content] at hc
    split at hc
    · rename_i d0 hd
      obtain ⟨_, v0, h1, h2⟩ := h
      obtain ⟨w, pre, a1, post, q1, q2, q3, _⟩ := EL.at S.el hd
      rw [h1] at q1
      cases q1
      obtain ⟨c1, r1, r2⟩ := path_rep q3 hc h2
      refine ⟨c1, r1, fun a z => List.mem_append_right _ ?_⟩
      rw [q2]
      simp [r2 a z]
    · cases hc
end

section
variable {X : Cx} {W : WX} {pins : List (Addr × Obj)} {σ : St} {H F H0 F0 : Hp} {s : Shared} {e : En} {A B0 T : List Addr} {x : Expr} {P : Value → Shared → Prop} {β : Type} {φ : β → Prop}
/-- an expression is reckoned, then the rest -/
theorem seqE {f : En → R (RV × En)} (h : PE X x (tE X.K X.mg W f)) (I : Inv X pins σ H s) (S : Sta X.K X.mg F H σ e A) {g : RV × En → R β} (st0 : Step B0 H0 F0 (T ++ A) H F)
    (post : PostG W σ B0 H0 F0 ((f e).bind g) φ)
    (k : ∀ rv e', f e = .ok (rv, e') → ∀ v u s' H' F' A' as, Inv X pins σ H' s' → RelV v u → Step A H F (as ++ A') H' F' → Step B0 H0 F0 (T ++ (as ++ A')) H' F' → Sta X.K X.mg F' H' σ e' A' → ResV X.K X.mg F' H' σ A' v rv as →
      PostG W σ B0 H0 F0 (g (rv, e')) φ → P u s') : wpAny (model X.prog X.w) X.A (eval x X.env) P X.xe s := by
  cases hf : f e with
  | ok y =>
    obtain ⟨rv, e'⟩ := y
    rw [hf] at post
    refine thn (h.run pins s σ H (fun v H' => ∃ F' A' as, Step A H F (as ++ A') H' F' ∧ Sta X.K X.mg F' H' σ e' A' ∧ ResV X.K X.mg F' H' σ A' v rv as) I ⟨e, F, A, S, ?_⟩) fun u s' hh => ?_
    · rw [hf]
      exact fun v H' F' A' as h1 h2 h3 => ⟨F', A', as, h1, h2, h3⟩
    · obtain ⟨v, H', I', r, F', A', as, h1, h2, h3⟩ := hh
      exact k rv e' hf v u s' H' F' A' as I' r h1 (st0.trans (h1.frame T)) h2 h3 post
  | err c fs e' =>
    rw [hf] at post
    refine thn (h.run pins s σ H (fun _ _ => False) I ⟨e, F, A, S, ?_⟩) fun u s' ⟨_, _, _, _, z⟩ => z.elim
    rw [hf]
    exact ErrP.before st0 post
  | stuck => rw [hf] at post; exact post.elim
theorem seqT {f : En → R (Bool × En)} (h : PT X x (tT X.K X.mg W f)) (I : Inv X pins σ H s) (S : Sta X.K X.mg F H σ e A) {g : Bool × En → R β} {P : Bool → Shared → Prop} (st0 : Step B0 H0 F0 (T ++ A) H F)
    (post : PostG W σ B0 H0 F0 ((f e).bind g) φ)
    (k : ∀ b e', f e = .ok (b, e') → ∀ s' H' F' A', Inv X pins σ H' s' → Step A H F A' H' F' → Step B0 H0 F0 (T ++ A') H' F' → Sta X.K X.mg F' H' σ e' A' → PostG W σ B0 H0 F0 (g (b, e')) φ → P b s') :
    wpAny (model X.prog X.w) X.A (isTrue x X.env (eval x X.env)) P X.xe s := by
  cases hf : f e with
  | ok y =>
    obtain ⟨b, e'⟩ := y
    rw [hf] at post
    refine thn (h.run pins s σ H (fun v H' => v = b ∧ ∃ F' A', Step A H F A' H' F' ∧ Sta X.K X.mg F' H' σ e' A') I ⟨e, F, A, S, ?_⟩) fun u s' hh => ?_
    · rw [hf]
      exact fun H' F' A' h1 h2 => ⟨rfl, F', A', h1, h2⟩
    · obtain ⟨H', I', r, F', A', h1, h2⟩ := hh
      subst r
      exact k u e' hf s' H' F' A' I' h1 (st0.trans (h1.frame T)) h2 post
  | err c fs e' =>
    rw [hf] at post
    refine thn (h.run pins s σ H (fun _ _ => False) I ⟨e, F, A, S, ?_⟩) fun u s' ⟨_, _, z⟩ => z.elim
    rw [hf]
    exact ErrP.before st0 post
  | stuck => rw [hf] at post; exact post.elim
theorem seqA {es : List Expr} {f : En → R (List RV × En)} {pos : Pos} (h : PA X es (tA X.K X.mg W f)) (I : Inv X pins σ H s) (S : Sta X.K X.mg F H σ e A) {g : List RV × En → R β} {P : List Value → Shared → Prop} (st0 : Step B0 H0 F0 (T ++ A) H F)
    (post : PostG W σ B0 H0 F0 ((f e).bind g) φ)
    (k : ∀ rvs e', f e = .ok (rvs, e') → ∀ vs us s' H' F' A' as, Inv X pins σ H' s' → Vals vs us → Step A H F (as ++ A') H' F' → Step B0 H0 F0 (T ++ (as ++ A')) H' F' → Sta X.K X.mg F' H' σ e' A' → ResVs X.K X.mg F' H' σ A' vs rvs as →
      PostG W σ B0 H0 F0 (g (rvs, e')) φ → P us s') : wpAny (model X.prog X.w) X.A (spliced (backTo pos (starEach es X.env))) P X.xe s := by
  cases hf : f e with
  | ok y =>
    obtain ⟨rvs, e'⟩ := y
    rw [hf] at post
    refine thn (h.run pos pins s σ H (fun vs H' => ∃ F' A' as, Step A H F (as ++ A') H' F' ∧ Sta X.K X.mg F' H' σ e' A' ∧ ResVs X.K X.mg F' H' σ A' vs rvs as) I ⟨e, F, A, S, ?_⟩) fun u s' hh => ?_
    · rw [hf]
      exact fun v H' F' A' as h1 h2 h3 => ⟨F', A', as, h1, h2, h3⟩
    · obtain ⟨v, H', I', r, F', A', as, h1, h2, h3⟩ := hh
      exact k rvs e' hf v u s' H' F' A' as I' r h1 (st0.trans (h1.frame T)) h2 h3 post
  | err c fs e' =>
    rw [hf] at post
    refine thn (h.run pos pins s σ H (fun _ _ => False) I ⟨e, F, A, S, ?_⟩) fun u s' ⟨_, _, _, _, z⟩ => z.elim
    rw [hf]
    exact ErrP.before st0 post
  | stuck => rw [hf] at post; exact post.elim
end
end Ev

set_option Elab.async false
set_option linter.all false
set_option maxRecDepth 100000
set_option maxHeartbeats 1000000
/-! Ev6: operators and built-in functions, by values. -/
namespace Ev
open PySem L2

/-- a datum comes, nothing is written -/
def Gv (K : PySem.W.Frag) (mg : Str → Option Value) (H F : Hp) (d : D) (Q : VK) : Prop :=
  ∀ v H' F' cs, Step [] H F cs H' F' → Le F' H' → Rep K mg F' H' d v cs → cs.Nodup → (∀ a ∈ cs, F' a = none) → Q v H'
section
variable {K : PySem.W.Frag} {mg : Str → Option Value} {F H : Hp} {Q : VK}
theorem Gv.same {d : D} {v : V} (g : Gv K mg H F d Q) (s : Le F H) (r : Rep K mg F H d v []) : Q v H :=
  g v H F [] (Step.refl fun _ z => z) s r .nil fun _ z => absurd z (by simp)
theorem Gv.int {i : Int} (g : Gv K mg H F (.int i) Q) (s : Le F H) : Q (.int i) H := g.same s (by simp [Rep])
theorem Gv.bl {i : Bool} (g : Gv K mg H F (.bl i) Q) (s : Le F H) : Q (.bl i) H := g.same s (by simp [Rep])
theorem Gv.str {i : Str} (g : Gv K mg H F (.str i) Q) (s : Le F H) : Q (.str i) H := g.same s (by simp [Rep])
theorem Gv.tupNew {ds : List D} {vs : List V} {p : Addr} (g : Gv K mg H F (.tup ds) Q) (s : Le F H) (r : ReL K mg F H ds vs []) (h : H p = none) : Q (.ref p) (upd H p (.tup vs)) := by
  have hf : F p = none := by
    cases q : F p with
    | none => rfl
    | some o => rw [s p o q] at h; cases h
  have st := Step.newF (B := []) (o := .tup vs) h hf
  refine g (.ref p) _ _ [] st (fun a o e => ?_) ?_ .nil fun _ z => absurd z (by simp)
  · by_cases q : a = p
    · subst q; rw [upd_same] at e ⊢; exact e
    · rw [upd_ne q] at e ⊢; exact s a o e
  · simp only [Rep]
    exact ⟨trivial, p, vs, rfl, .inl (.inl upd_same), ReL.mono st.le ds vs [] (fun _ z => absurd z (by simp)) r⟩
theorem Gv.lstNew {ds : List D} {vs : List V} {p : Addr} (g : Gv K mg H F (.lst .own ds) Q) (s : Le F H) (r : ReL K mg F H ds vs []) (h : H p = none) : Q (.ref p) (upd H p (.lst vs)) := by
  have hf : F p = none := by
    cases q : F p with
    | none => rfl
    | some o => rw [s p o q] at h; cases h
  have st := Step.new (B := []) (F := F) (o := .lst vs) h
  refine g (.ref p) _ F [p] st (fun a o e => ?_) ?_ (by simp) fun a z => ?_
  · rw [upd_ne (ne_of_none (s a o e) h)]; exact s a o e
  · simp only [Rep]
    exact ⟨p, vs, [], rfl, rfl, upd_same, ReL.mono (Le.refl F) ds vs [] (fun _ z => absurd z (by simp)) r⟩
  · have q : a = p := by simpa using z
    rw [q]; exact hf

theorem rep_int {i : Int} {v : V} {as : List Addr} (h : Rep K mg F H (.int i) v as) : v = .int i := by simp only [Rep] at h; exact h.1
theorem rep_bl {i : Bool} {v : V} {as : List Addr} (h : Rep K mg F H (.bl i) v as) : v = .bl i := by simp only [Rep] at h; exact h.1
theorem rep_str {i : Str} {v : V} {as : List Addr} (h : Rep K mg F H (.str i) v as) : v = .str i := by simp only [Rep] at h; exact h.1
theorem rep_non {v : V} {as : List Addr} (h : Rep K mg F H .non v as) : v = .non := by simp only [Rep] at h; exact h.1
theorem rep_ty {n : String} {v : V} {as : List Addr} (h : Rep K mg F H (.ty n) v as) : v = .ty n := by simp only [Rep] at h; exact h.1
theorem rep_tup {ds : List D} {v : V} {as : List Addr} (h : Rep K mg F H (.tup ds) v as) : ∃ a vs, v = .ref a ∧ SqT K F a vs ∧ ReL K mg F H ds vs [] := by simp only [Rep] at h; exact h.2
/-- a list that is read, whoever may write it -/
theorem rep_lst {m : Mk} {ds : List D} {v : V} {as : List Addr} (s : Le F H) (h : Rep K mg F H (.lst m ds) v as) : ∃ a vs bs, v = .ref a ∧ SqL K H a vs ∧ ReL K mg F H ds vs bs ∧ (m ≠ .ext → H a = some (.lst vs)) := by
  cases m with
  | own =>
    simp only [Rep] at h
    obtain ⟨a, vs, bs, ev, _, hs, hr⟩ := h
    exact ⟨a, vs, bs, ev, .of hs, hr, fun _ => hs⟩
  | fro =>
    simp only [Rep] at h
    obtain ⟨_, a, vs, ev, hs, hr⟩ := h
    exact ⟨a, vs, [], ev, .of (s _ _ hs), hr, fun _ => s _ _ hs⟩
  | ext =>
    simp only [Rep] at h
    obtain ⟨_, a, vs, ev, hs, hr⟩ := h
    exact ⟨a, vs, [], ev, s.seqL hs, hr, fun z => absurd rfl z⟩
theorem rel_plain {ds : List D} {vs : List V} {as : List Addr} (p : plainL ds = true) (h : ReL K mg F H ds vs as) : ReL K mg F H ds vs [] := by
  rw [ReL.bare p h] at h; exact h
theorem rel_append : ∀ {ds es : List D} {vs ws : List V} {as bs : List Addr}, ReL K mg F H ds vs as → ReL K mg F H es ws bs → ReL K mg F H (ds ++ es) (vs ++ ws) (as ++ bs)
  | [], es, vs, ws, as, bs, h, k => by
    simp only [ReL] at h
    rw [h.1, h.2]; exact k
  | d :: ds, es, vs, ws, as, bs, h, k => by
    simp only [ReL] at h
    obtain ⟨v, r, a1, a2, ev, e, h1, h2⟩ := h
    rw [ev, e]
    simp only [List.cons_append, ReL]
    exact ⟨v, r ++ ws, a1, a2 ++ bs, rfl, by simp, h1, rel_append h2 k⟩
theorem rel_take : ∀ {ds : List D} {vs : List V} (n : Nat), ReL K mg F H ds vs [] → ReL K mg F H (ds.take n) (vs.take n) []
  | [], vs, n, h => by simp only [ReL] at h; rw [h.1]; simp [ReL]
  | d :: ds, vs, 0, h => by simp [ReL]
  | d :: ds, vs, n + 1, h => by
    simp only [ReL] at h
    obtain ⟨v, r, a1, a2, ev, e, h1, h2⟩ := h
    obtain ⟨e1, e2⟩ := List.append_eq_nil_iff.mp e.symm
    subst e1; subst e2; subst ev
    simp only [List.take_succ_cons, ReL]
    exact ⟨v, r.take n, [], [], rfl, rfl, h1, rel_take n h2⟩
theorem rel_drop : ∀ {ds : List D} {vs : List V} (n : Nat), ReL K mg F H ds vs [] → ReL K mg F H (ds.drop n) (vs.drop n) []
  | [], vs, n, h => by simp only [ReL] at h; rw [h.1]; simp [ReL]
  | d :: ds, vs, 0, h => h
  | d :: ds, vs, n + 1, h => by
    simp only [ReL] at h
    obtain ⟨v, r, a1, a2, ev, e, h1, h2⟩ := h
    obtain ⟨e1, e2⟩ := List.append_eq_nil_iff.mp e.symm
    subst e1; subst e2; subst ev
    exact rel_drop n h2
theorem rel_rep {ds : List D} {vs : List V} (h : ReL K mg F H ds vs []) : ∀ n : Nat, ReL K mg F H (List.replicate n ds).flatten (List.replicate n vs).flatten []
  | 0 => by simp [ReL]
  | n + 1 => by
    rw [List.replicate_succ, List.replicate_succ, List.flatten_cons, List.flatten_cons]
    exact rel_append (as := []) (bs := []) h (rel_rep h n)
theorem rel_rev : ∀ {ds : List D} {vs : List V}, ReL K mg F H ds vs [] → ReL K mg F H ds.reverse vs.reverse []
  | [], vs, h => by simp only [ReL] at h; rw [h.1]; simp [ReL]
  | d :: ds, vs, h => by
    simp only [ReL] at h
    obtain ⟨v, r, a1, a2, ev, e, h1, h2⟩ := h
    obtain ⟨e1, e2⟩ := List.append_eq_nil_iff.mp e.symm
    subst e1; subst e2; subst ev
    rw [List.reverse_cons, List.reverse_cons]
    exact rel_append (as := []) (bs := []) (rel_rev h2) (by simp only [ReL]; exact ⟨v, [], [], [], rfl, rfl, h1, rfl, rfl⟩)
theorem rel_bools : ∀ {ds : List D} {bs : List Bool} {vs : List V} {as : List Addr}, bools ds = some bs → ReL K mg F H ds vs as → vs = bs.map V.bl
  | [], bs, vs, as, e, h => by
    simp only [bools, Option.some.injEq] at e
    simp only [ReL] at h
    rw [← e, h.1]; rfl
  | d :: ds, bs, vs, as, e, h => by
    cases d <;> simp only [bools] at e <;> try cases e
    rename_i b
    simp only [ReL] at h
    obtain ⟨v, r, a1, a2, ev, ee, h1, h2⟩ := h
    split at e
    · rename_i cs q
      cases e
      rw [ev, rep_bl h1, rel_bools q h2]; rfl
    · cases e
end

section
variable {X : Cx} {pins : List (Addr × Obj)} {σ : St} {s : Shared} {F H : Hp} {x y : V} {u w : Value} {a b d : D} {as bs : List Addr} {Q : VK} {k : Nat}
theorem powOk_ok {i j : Int} (h : powOk i j = true) : 0 ≤ j ∧ (Builtin.Int.intBits i : Int) * j ≤ 2 ^ 27 := by
  simp only [powOk, Bool.and_eq_true, decide_eq_true_eq] at h; exact h
theorem mulOk_ok {i j : Int} (h : mulOk i j = true) : CMulW i j := of_decide_eq_true (p := i.natAbs.log2 + j.natAbs.log2 < big) h
theorem op_powG : OpR X (binaryOp .Pow) (rI (fun i j => 0 ≤ j ∧ (Builtin.Int.intBits i : Int) * j ≤ 2 ^ 27) fun i j => .int (i ^ j.toNat)) := opI fun _ _ _ _ _ _ _ hc q => PyProof.Rows.pow_int hc.1 hc.2 q
/-- an operator -/
theorem binop_ok {op : Operator} (I : Inv X pins σ H s) (r1 : RelV x u) (r2 : RelV y w) (sub : Le F H) (ha : Rep X.K X.mg F H a x as) (hb : Rep X.K X.mg F H b y bs) (e : binop op a b = some d) (g : Gv X.K X.mg H F d Q) :
    wpAny (model X.prog X.w) X.A (binaryOp op u w) (EP X pins σ Q) X.xe s := by
  unfold binop at e
  split at e
  · cases e
    exact op_add pins s σ H x y u w Q I r1 r2 ⟨_, _, rep_int ha, rep_int hb, g.int sub⟩
  · cases e
    exact op_sub pins s σ H x y u w Q I r1 r2 ⟨_, _, rep_int ha, rep_int hb, g.int sub⟩
  · split at e
    · rename_i c
      cases e
      exact op_mulW pins s σ H x y u w Q I r1 r2 ⟨_, _, rep_int ha, rep_int hb, mulOk_ok c, g.int sub⟩
    · cases e
  · split at e
    · rename_i c
      cases e
      simp only [divOk, Bool.and_eq_true, decide_eq_true_eq] at c
      exact op_fdivW pins s σ H x y u w Q I r1 r2 ⟨_, _, rep_int ha, rep_int hb, c, g.int sub⟩
    · cases e
  · split at e
    · rename_i c
      cases e
      exact op_mod pins s σ H x y u w Q I r1 r2 ⟨_, _, rep_int ha, rep_int hb, c, g.int sub⟩
    · cases e
  · split at e
    · rename_i c
      cases e
      exact op_powG pins s σ H x y u w Q I r1 r2 ⟨_, _, rep_int ha, rep_int hb, powOk_ok c, g.int sub⟩
    · cases e
  · rename_i xs ys
    split at e
    · rename_i c
      cases e
      obtain ⟨a1, vs, ev, hs, hr⟩ := rep_tup ha
      obtain ⟨b1, ws, ew, ht, hq⟩ := rep_tup hb
      have l1 := hr.length
      have l2 := hq.length
      refine op_catA pins s σ H x y u w Q I r1 r2 ⟨a1, b1, vs, ws, ev, ew, sub.seqT hs, sub.seqT ht, ?_, fun z => ?_, fun _ z => ?_, fun _ _ p hp => ?_⟩
      · rw [← l1, ← l2]; exact of_decide_eq_true c
      · have z' : xs = [] := List.length_eq_zero_iff.mp (by rw [l1, z]; rfl)
        subst z'
        refine g.same sub ?_
        simp only [Rep, List.nil_append]
        exact ⟨trivial, b1, ws, rfl, ht, hq⟩
      · have z' : ys = [] := List.length_eq_zero_iff.mp (by rw [l2, z]; rfl)
        subst z'
        refine g.same sub ?_
        simp only [Rep, List.append_nil]
        exact ⟨trivial, a1, vs, rfl, hs, hr⟩
      · exact g.tupNew sub (rel_append (as := []) (bs := []) hr hq) hp
    · cases e
  · rename_i m xs n ys
    split at e
    · rename_i c
      cases e
      simp only [Bool.and_eq_true, decide_eq_true_eq, ne_eq] at c
      obtain ⟨⟨⟨⟨c1, c2⟩, c3⟩, c4⟩, c5⟩ := c
      obtain ⟨a1, vs, as1, ev, _, hr, hs⟩ := rep_lst sub ha
      obtain ⟨b1, ws, bs1, ew, _, hq, ht⟩ := rep_lst sub hb
      refine op_cat pins s σ H x y u w Q I r1 r2 ⟨a1, b1, vs, ws, ev, ew, hs c1, ht c2, ?_, fun p hp => ?_⟩
      · rw [← hr.length, ← hq.length]; exact of_decide_eq_true c5
      · exact g.lstNew sub (rel_append (as := []) (bs := []) (rel_plain c3 hr) (rel_plain c4 hq)) hp
    · cases e
  · rename_i xs k
    split at e
    · rename_i c
      cases e
      simp only [Bool.and_eq_true, decide_eq_true_eq, Bool.not_eq_true', List.isEmpty_eq_false_iff] at c
      obtain ⟨⟨⟨c1, c2⟩, c3⟩, c4⟩ := c
      obtain ⟨a1, vs, ev, hs, hr⟩ := rep_tup ha
      refine op_repT pins s σ H x y u w Q I r1 r2 ⟨a1, k, vs, ev, rep_int hb, sub.seqT hs, fun z => c3 (List.length_eq_zero_iff.mp (by rw [hr.length, z]; rfl)), c1, c2, by rw [← hr.length]; exact c4, fun p hp => ?_⟩
      exact g.tupNew sub (rel_rep hr _) hp
    · cases e
  · rename_i m xs k
    split at e
    · rename_i c
      cases e
      simp only [Bool.and_eq_true, decide_eq_true_eq, ne_eq] at c
      obtain ⟨⟨⟨⟨c1, c2⟩, c3⟩, c4⟩, c5⟩ := c
      obtain ⟨a1, vs, as1, ev, _, hr, hs⟩ := rep_lst sub ha
      refine op_rep pins s σ H x y u w Q I r1 r2 ⟨a1, k, vs, ev, rep_int hb, hs c1, by omega, c4, by rw [← hr.length]; exact of_decide_eq_true c5, fun p hp => ?_⟩
      exact g.lstNew sub (rel_rep (rel_plain c2 hr) _) hp
    · cases e
  · cases e

theorem eqD_ok {p : Bool} (e : eqD a b = some p) (sub : Le F H) (ha : Rep X.K X.mg F H a x as) (hb : Rep X.K X.mg F H b y bs) : ∃ d1 d2, Dp X.K H x d1 ∧ Dp X.K H y d2 ∧ SeqAt.shaped d1 = true ∧ SeqAt.shaped d2 = true ∧ PyData.eqv d1 d2 = p := by
  unfold eqD at e
  split at e
  · rename_i d1 d2 q1 q2
    split at e
    · rename_i c
      cases e
      rw [Bool.and_eq_true] at c
      exact ⟨d1, d2, Rep.dp sub ha q1, Rep.dp sub hb q2, c.1, c.2, rfl⟩
    · cases e
  · cases e
theorem non_dec {v : V} (h : Rep X.K X.mg F H a v as) : decide (v = .non) = isNon a := by
  cases a with
  | non => rw [rep_non h]; rfl
  | bl _ => rw [rep_bl h]; rfl
  | int _ => rw [rep_int h]; rfl
  | str _ => rw [rep_str h]; rfl
  | ty _ => rw [rep_ty h]; rfl
  | fn _ => simp only [Rep] at h; obtain ⟨_, p, e, _⟩ := h; rw [e]; rfl
  | tup _ => obtain ⟨p, _, e, _⟩ := rep_tup h; rw [e]; rfl
  | lst m _ => cases m <;> simp only [Rep] at h <;> first
    | (obtain ⟨p, _, _, e, _⟩ := h; rw [e]; rfl)
    | (obtain ⟨_, p, _, e, _⟩ := h; rw [e]; rfl)
  | dic m _ _ => cases m <;> simp only [Rep] at h <;> first
    | (obtain ⟨p, _, _, e, _⟩ := h; rw [e]; rfl)
    | (obtain ⟨_, p, _, e, _⟩ := h; rw [e]; rfl)
/-- a comparison: True or False, nothing is made -/
theorem cmpop_ok {op : CmpOp} {c : Bool} (hr : Room k X.A) (I : Inv X pins σ H s) (r1 : RelV x u) (r2 : RelV y w) (sub : Le F H) (ha : Rep X.K X.mg F H a x as) (hb : Rep X.K X.mg F H b y bs) (e : cmpop op a b = some c) (g : Q (.bl c) H) :
    wpAny (model X.prog X.w) X.A (compareOp op u w) (EP X pins σ Q) X.xe s := by
  unfold cmpop at e
  split at e
  · cases e; exact op_lt pins s σ H x y u w Q I r1 r2 ⟨_, _, rep_int ha, rep_int hb, g⟩
  · cases e; exact op_le pins s σ H x y u w Q I r1 r2 ⟨_, _, rep_int ha, rep_int hb, g⟩
  · cases e; exact op_gt pins s σ H x y u w Q I r1 r2 ⟨_, _, rep_int ha, rep_int hb, g⟩
  · cases e; exact op_ge pins s σ H x y u w Q I r1 r2 ⟨_, _, rep_int ha, rep_int hb, g⟩
  · cases e
    refine op_isN pins s σ H x y u w Q I r1 r2 ⟨rep_non hb, ?_⟩
    rw [non_dec ha]; exact g
  · refine op_notN pins s σ H x y u w Q I r1 r2 ⟨rep_non hb, ?_⟩
    rw [non_dec ha]
    cases e
    exact g
  · obtain ⟨d1, d2, h1, h2, h3, h4, h5⟩ := eqD_ok e sub ha hb
    exact op_eqD hr.units pins s σ H x y u w Q I r1 r2 ⟨d1, d2, h1, h2, h3, h4, by rw [h5]; exact g⟩
  · cases q : eqD a b with
    | some p =>
      rw [q] at e
      cases e
      obtain ⟨d1, d2, h1, h2, h3, h4, h5⟩ := eqD_ok q sub ha hb
      exact op_neD hr.units pins s σ H x y u w Q I r1 r2 ⟨d1, d2, h1, h2, h3, h4, by rw [h5]; exact g⟩
    | none => rw [q] at e; cases e
  · cases e
/-- truth -/
theorem truth_ok {c : Bool} {Q : Bool → Hp → Prop} (I : Inv X pins σ H s) (r1 : RelV x u) (sub : Le F H) (ha : Rep X.K X.mg F H a x as) (e : truth a = some c) (g : Q c H) :
    wpAny (model X.prog X.w) X.A (truthy u) (TP X pins σ Q) X.xe s := by
  refine tru_ok pins s σ H x u Q I r1 ⟨c, ?_, g⟩
  cases a with
  | non => cases e; rw [rep_non ha]; exact rfl
  | bl _ => cases e; rw [rep_bl ha]; exact rfl
  | int _ => cases e; rw [rep_int ha]; exact rfl
  | tup ds =>
    cases e
    obtain ⟨p, vs, ev, hs, hr⟩ := rep_tup ha
    rw [ev]
    refine .inr (.inl ⟨vs, sub.seqT hs, ?_⟩)
    have := hr.length
    cases ds <;> cases vs <;> simp_all
  | lst m ds =>
    cases e
    obtain ⟨p, vs, bs, ev, hs, hr, _⟩ := rep_lst sub ha
    rw [ev]
    refine .inl ⟨vs, hs, ?_⟩
    have := hr.length
    cases ds <;> cases vs <;> simp_all
  | _ => cases e
end
end Ev

set_option Elab.async false
set_option linter.all false
set_option maxRecDepth 100000
set_option maxHeartbeats 1000000
/-! Ev7: built-in functions. -/
namespace Ev
open PySem L2

def bval : Bl → Value
  | .len => .builtin "len" | .abs => .builtin "abs" | .max => .builtin "max" | .min => .builtin "min" | .int => .type "int" | .isinstance => .builtin "isinstance"
  | .list => .type "list" | .tuple => .type "tuple" | .any => .builtin "any" | .all => .builtin "all" | .repr => .builtin "repr"
theorem boot_ok {x : Str} {b : Bl} (h : bltOf x = some b) : bootBuiltins x = some (bval b) := by
  unfold bltOf at h
  repeat' split at h
  all_goals first | cases h | skip
  all_goals (rename_i q; have e := eq_of_beq q; subst e; decide +kernel)
theorem boot_ty {x : Str} {t : String} (h : tyName x = some t) : bootBuiltins x = some (.type t) := by
  unfold tyName at h
  repeat' split at h
  all_goals first | cases h | skip
  all_goals (rename_i q; have e := eq_of_beq q; subst e; decide +kernel)

section
variable (K : PySem.W.Frag) (mg : Str → Option Value) (F H : Hp)
def RelD : List D → List V → Prop
  | [], vs => vs = []
  | d :: ds, vs => ∃ v r as, vs = v :: r ∧ Rep K mg F H d v as ∧ RelD ds r
end

section
variable {X : Cx} {pins : List (Addr × Obj)} {σ : St} {s : Shared} {F H : Hp} {d : D} {Q : VK} {k : Nat}
theorem tyx_ok {a : D} {x : V} {as : List Addr} {t : String} (sub : Le F H) (h : Rep X.K X.mg F H a x as) (e : tyOf a = some t) : TyX X.K H x (.type t) := by
  cases a with
  | non => cases e; rw [rep_non h]; exact .base .non
  | bl b => cases e; rw [rep_bl h]; exact .base (.bl b)
  | int b => cases e; rw [rep_int h]; exact .base (.int b)
  | str b => cases e; rw [rep_str h]; exact .base (.str b)
  | tup ds =>
    cases e
    obtain ⟨p, vs, ev, hs, _⟩ := rep_tup h
    rw [ev]
    rcases sub.seqT hs with (q | ⟨o, q⟩) | ⟨o, its, n, q, c, _⟩
    · exact .base (.tup q)
    · exact .fTuple q
    · exact .kTuple q c
  | lst m ds =>
    cases e
    obtain ⟨p, vs, bs, ev, hs, _, _⟩ := rep_lst sub h
    rw [ev]
    rcases hs with (q | ⟨o, q⟩) | ⟨o, its, n, q, c, _⟩
    · exact .base (.lst q)
    · exact .base (.frz q)
    · exact .kList q c
  | dic m ks ds =>
    cases e
    cases m <;> simp only [Rep] at h
    · obtain ⟨p, kvs, _, ev, _, q, _⟩ := h; rw [ev]; exact .base (.dK q)
    · obtain ⟨_, p, kvs, ev, q, _⟩ := h; rw [ev]; exact .base (.dK (sub _ _ q))
    · obtain ⟨_, p, kvs, ev, q, _⟩ := h; rw [ev]; exact .base (.dK (sub _ _ q))
  | _ => cases e

theorem one_of {a : D} {vs : List V} (h : RelD X.K X.mg F H [a] vs) : ∃ v as, vs = [v] ∧ Rep X.K X.mg F H a v as := by
  simp only [RelD] at h
  obtain ⟨v, r, as, e, h1, h2⟩ := h
  subst h2
  exact ⟨v, as, e, h1⟩
theorem two_of {a b : D} {vs : List V} (h : RelD X.K X.mg F H [a, b] vs) : ∃ v w as bs, vs = [v, w] ∧ Rep X.K X.mg F H a v as ∧ Rep X.K X.mg F H b w bs := by
  simp only [RelD] at h
  obtain ⟨v, r, as, e, h1, v2, r2, as2, e2, h3, h4⟩ := h
  subst h4; subst e2
  exact ⟨v, v2, as, as2, e, h1, h3⟩

mutual
theorem toPy_noDict : ∀ {d : D} {p : PyData}, toPy d = some p → p.hasDict = false
  | .non, p, h => by simp only [toPy, Option.some.injEq] at h; subst h; rfl
  | .bl _, p, h => by simp only [toPy, Option.some.injEq] at h; subst h; rfl
  | .int _, p, h => by simp only [toPy, Option.some.injEq] at h; subst h; rfl
  | .str _, p, h => by simp only [toPy, Option.some.injEq] at h; subst h; rfl
  | .tup ds, p, h => by
    simp only [toPy] at h
    split at h
    · rename_i xs hx
      cases h
      simpa only [PyData.hasDict] using toPyL_noDict hx
    · cases h
  | .lst _ ds, p, h => by
    simp only [toPy] at h
    split at h
    · rename_i xs hx
      cases h
      simpa only [PyData.hasDict] using toPyL_noDict hx
    · cases h
  | .dic _ _ _, p, h => by simp [toPy] at h
  | .fn _, p, h => by simp [toPy] at h
  | .ty _, p, h => by simp [toPy] at h
theorem toPyL_noDict : ∀ {ds : List D} {ps : List PyData}, toPyL ds = some ps → PyData.hasDictAll ps = false
  | [], ps, h => by simp only [toPyL, Option.some.injEq] at h; subst h; rfl
  | d :: r, ps, h => by
    simp only [toPyL] at h
    split at h
    · rename_i x xs h1 h2
      cases h
      simp only [PyData.hasDictAll, toPy_noDict h1, toPyL_noDict h2, Bool.or_false]
    · cases h
end
theorem repr_ok {d : D} {p : PyData} {v : V} {as : List Addr} {vs : List V} {us : List Value} (hr : Room k X.A) (hg : X.A.guards = some []) (I : Inv X pins σ H s) (r : Vals vs us) (sub : Le F H) (h : Rep X.K X.mg F H d v as) (ev : vs = [v]) (hp : toPy d = some p)
    (hs : p.showable = true) (hd : p.depth ≤ 64) (hz : p.shown.length ≤ sizeLine) (g : Gv X.K X.mg H F (.str p.shown) Q) : wpAny (model X.prog X.w) X.A (call (.builtin "repr") us) (EP X pins σ Q) X.xe s := by
  subst ev
  obtain ⟨u, rfl, ru⟩ := Vals.one r
  have dp := Rep.dp sub h hp
  obtain ⟨bs, rd⟩ := Dp.reads I p v u dp ru
  have hun : X.A.units + (p.depth + 1) < cLine := by have := hr.un; omega
  have fin : ∀ (t : Tok) (s' : Shared), Inv X pins σ H s' → EP X pins σ Q (.str p.shown t) s' := fun t s' I' => ⟨.str p.shown, H, I', ⟨t, rfl⟩, g.str sub⟩
  have viaRef : ∀ {a : Addr} {bs : List Addr}, u = .ref a → Reads s.heap (.ref a) p bs → wpAny (model X.prog X.w) X.A (call (.builtin "repr") [u]) (EP X pins σ Q) X.xe s := fun {a bs} e rd => by
    subst e
    exact repr_of_reads' rd hs (fun z => by rw [toPy_noDict hp] at z; cases z) hg hun (fun _ _ e => e) (fun h' t tk hk => fin t _ (I.kept hk)) hz
  cases rd with
  | none => exact P.repr_of_none (fin _ _ (I.tok _))
  | bool b => exact P.repr_of_bool (fin _ _ (I.tok _))
  | int i t => exact P.repr_of_int (by simpa [PyData.showable] using hs) (fin _ _ (I.tok _))
  | str x t => exact P.repr_of_str (fin _ _ (I.tok _)) hz
  | list h1 h2 h3 h4 => exact viaRef rfl (.list h1 h2 h3 h4)
  | tuple h1 h2 h3 h4 => exact viaRef rfl (.tuple h1 h2 h3 h4)
  | dict h1 h2 h3 h4 h5 => exact viaRef rfl (.dict h1 h2 h3 h4 h5)
theorem callB_ok {b : Bl} {ds : List D} {vs : List V} {us : List Value} (hr : Room k X.A) (hg : X.A.guards = some []) (hc : X.calm = true) (I : Inv X pins σ H s) (r : Vals vs us) (sub : Le F H) (h : RelD X.K X.mg F H ds vs)
    (e : callB b ds = some d) (g : Gv X.K X.mg H F d Q) : wpAny (model X.prog X.w) X.A (call (bval b) us) (EP X pins σ Q) X.xe s := by
  unfold callB at e
  split at e
  · cases e
    obtain ⟨v, as, ev, h1⟩ := one_of h
    obtain ⟨p, ws, ew, hs, hq⟩ := rep_tup h1
    refine call_len_seq pins s σ H vs us Q I r ⟨p, ws, by rw [ev, ew], .inr (sub.seqT hs), ?_⟩
    rw [← hq.length]; exact g.int sub
  · cases e
    obtain ⟨v, as, ev, h1⟩ := one_of h
    obtain ⟨p, ws, bs, ew, hs, hq, _⟩ := rep_lst sub h1
    refine call_len_seq pins s σ H vs us Q I r ⟨p, ws, by rw [ev, ew], .inl hs, ?_⟩
    rw [← hq.length]; exact g.int sub
  · cases e
    obtain ⟨v, as, ev, h1⟩ := one_of h
    exact call_abs pins s σ H vs us Q I r ⟨_, by rw [ev, rep_int h1], g.int sub⟩
  · cases e
    obtain ⟨v, w, as, bs, ev, h1, h2⟩ := two_of h
    exact call_max2 hc pins s σ H vs us Q I r ⟨_, _, by rw [ev, rep_int h1, rep_int h2], g.int sub⟩
  · cases e
    obtain ⟨v, w, as, bs, ev, h1, h2⟩ := two_of h
    exact call_min2 hc pins s σ H vs us Q I r ⟨_, _, by rw [ev, rep_int h1, rep_int h2], g.int sub⟩
  · cases e
    obtain ⟨v, as, ev, h1⟩ := one_of h
    exact call_int1 pins s σ H vs us Q I r (.inl ⟨_, by rw [ev, rep_int h1], g.int sub⟩)
  · cases e
    obtain ⟨v, as, ev, h1⟩ := one_of h
    exact call_int1 pins s σ H vs us Q I r (.inr ⟨_, by rw [ev, rep_bl h1], g.int sub⟩)
  · rename_i x t
    obtain ⟨v, w, as, bs, ev, h1, h2⟩ := two_of h
    unfold isinst at e
    split at e
    · rename_i a ha
      split at e
      · rename_i c hk
        cases e
        exact call_isi pins s σ H vs us Q I r ⟨v, .ty t, .type a, .type t, c, by rw [ev, rep_ty h2], .ty t, tyx_ok sub h1 ha, kit_ty hk, g.bl sub⟩
      · cases e
    · cases e
  · cases e
    obtain ⟨v, as, ev, h1⟩ := one_of h
    obtain ⟨p, ws, ew, hs, hq⟩ := rep_tup h1
    exact call_list_of pins s σ H vs us Q I r ⟨p, ws, by rw [ev, ew], .inr (sub.seqT hs), fun l hl => g.lstNew sub hq hl⟩
  · split at e
    · rename_i c
      cases e
      obtain ⟨v, as, ev, h1⟩ := one_of h
      obtain ⟨p, ws, bs, ew, hs, hq, _⟩ := rep_lst sub h1
      exact call_list_of pins s σ H vs us Q I r ⟨p, ws, by rw [ev, ew], .inl hs, fun l hl => g.lstNew sub (rel_plain c hq) hl⟩
    · cases e
  · cases e
    obtain ⟨v, as, ev, h1⟩ := one_of h
    obtain ⟨p, ws, ew, hs, hq⟩ := rep_tup h1
    refine call_tuple_of pins s σ H vs us Q I r ⟨p, ws, by rw [ev, ew], .inr ⟨sub.seqT hs, g.same sub ?_⟩⟩
    simp only [Rep]
    exact ⟨trivial, p, ws, rfl, hs, hq⟩
  · split at e
    · rename_i c
      cases e
      obtain ⟨v, as, ev, h1⟩ := one_of h
      obtain ⟨p, ws, bs, ew, hs, hq, _⟩ := rep_lst sub h1
      exact call_tuple_of pins s σ H vs us Q I r ⟨p, ws, by rw [ev, ew], .inl ⟨hs, fun l hl => g.tupNew sub (rel_plain c hq) hl⟩⟩
    · cases e
  · split at e
    · rename_i bs q
      cases e
      obtain ⟨v, as, ev, h1⟩ := one_of h
      obtain ⟨p, ws, _, ew, hs, hq, _⟩ := rep_lst sub h1
      exact cr_any hc pins s σ H vs us Q I r ⟨p, bs, by rw [ev, ew], by rw [← rel_bools q hq]; exact hs, g.bl sub⟩
    · cases e
  · split at e
    · rename_i bs q
      cases e
      obtain ⟨v, as, ev, h1⟩ := one_of h
      obtain ⟨p, ws, _, ew, hs, hq, _⟩ := rep_lst sub h1
      exact cr_all hc pins s σ H vs us Q I r ⟨p, bs, by rw [ev, ew], by rw [← rel_bools q hq]; exact hs, g.bl sub⟩
    · cases e
  · split at e
    · rename_i p q
      split at e
      · rename_i c
        cases e
        simp only [Bool.and_eq_true, decide_eq_true_eq] at c
        obtain ⟨v, as, ev, h1⟩ := one_of h
        exact repr_ok hr hg I r sub h1 ev q c.1.1 c.1.2 (of_decide_eq_true c.2) g
      · cases e
    · cases e
  · cases e
end
end Ev

set_option Elab.async false
set_option linter.all false
set_option maxRecDepth 100000
set_option maxHeartbeats 1000000
/-! Ev8: names, constants, operators as expressions. -/
namespace Ev
open PySem L2

theorem PE.imp {X : Cx} {x : Expr} {t t' : TE} (h : PE X x t) (i : ∀ σ H Q, t' σ H Q → t σ H Q) : PE X x t' := ⟨fun pins s σ H Q I q => h.run pins s σ H Q I (i σ H Q q)⟩
theorem set_self {α : Type} : ∀ {l : List α} {i : Nat} {x : α}, l[i]? = some x → l.set i x = l
  | [], i, x, h => rfl
  | a :: l, 0, x, h => by simp at h; subst h; rfl
  | a :: l, i + 1, x, h => by simp at h; rw [List.set_cons_succ, set_self h]
theorem slotOf_at : ∀ {N : List Str} {x : Str} {i : Nat}, slotOf N x = some i → N[i]? = some x
  | [], x, i, h => by cases h
  | y :: r, x, i, h => by
    unfold slotOf at h
    split at h
    · rename_i q
      cases h
      rw [eq_of_beq q]; rfl
    · cases q : slotOf r x with
      | none => rw [q] at h; cases h
      | some j =>
        rw [q] at h
        cases h
        simpa using slotOf_at q

section
variable {K : PySem.W.Frag} {mg : Str → Option Value} {F H F' H' : Hp} {σ : St} {e e' : En} {A A' B : List Addr}
theorem take_noerr {v : RV} {c : Str} {fs : List (Str × D)} {e1 : En} (h : take e v = .err c fs e1) : False := by
  cases v with
  | val d => cases h
  | han i p =>
    simp only [take] at h
    cases q : getE e i with
    | none => rw [q] at h; cases h
    | some d =>
      rw [q] at h
      simp only at h
      cases q2 : part d p with
      | none => rw [q2] at h; cases h
      | some x => rw [q2] at h; cases h
/-- what is kept of a value -/
theorem take_ok {v : V} {rv : RV} {as : List Addr} {d : D} (S : Sta K mg F H σ e A) (h : ResV K mg F H σ A v rv as) (hn : ∀ a ∈ as, a ∉ A) (ht : take e rv = .ok (d, e')) :
    ∃ F' A' as', Step (as ++ A) H F (as' ++ A') H F' ∧ Sta K mg F' H σ e' A' ∧ Rep K mg F' H d v as' ∧ as'.Nodup ∧ (∀ a ∈ as', a ∉ A' ∧ F' a = none) ∧ (∀ a ∈ as', a ∈ as) ∧ (∀ a ∈ A', a ∈ A) ∧ Step A H F A' H F' := by
  cases rv with
  | val d0 =>
    simp only [take, R.ok.injEq, Prod.mk.injEq] at ht
    obtain ⟨e1, e2⟩ := ht
    subst e1; subst e2
    exact ⟨F, A, as, Step.refl fun _ z => z, S, h.1, h.2.1, h.2.2, fun _ z => z, fun _ z => z, Step.refl fun _ z => z⟩
  | han i p =>
    simp only [take] at ht
    split at ht
    · rename_i d0 hd
      split at ht
      · rename_i x hx
        simp only [R.ok.injEq, Prod.mk.injEq] at ht
        obtain ⟨e1, e2⟩ := ht
        subst e1; subst e2
        obtain ⟨ea, v0, h1, h2⟩ := h
        obtain ⟨w, pre, a1, post, q1, q2, q3, q4⟩ := EL.at S.el hd
        rw [h1] at q1
        cases q1
        have sub1 : ∀ a ∈ a1, a ∈ A := fun a z => by rw [q2]; simp [z]
        have nd := S.nd
        rw [q2] at nd
        have out : ∀ a ∈ pre ++ post, a ∉ a1 := fun a z q => by
          rw [List.nodup_append, List.nodup_append] at nd
          obtain ⟨⟨_, _, n1⟩, _, n2⟩ := nd
          rcases List.mem_append.mp z with w | w
          · exact n1 a w a q rfl
          · exact n2 a (List.mem_append_right _ q) a w rfl
        have sub2 : ∀ a ∈ pre ++ post, a ∈ A := fun a z => by
          rw [q2]
          rcases List.mem_append.mp z with w | w <;> simp [w]
        obtain ⟨c1, r1, r2⟩ := path_rep q3 hx h2
        have fz := Rep.freeze (frzAt_le (as := a1) S.sub) _ _ _ (fun a z o ho => by rw [frzAt_in (r2 a z)]; exact ho) r1
        have fz0 := Rep.freeze (frzAt_le (as := a1) S.sub) _ _ _ (fun a z o ho => by rw [frzAt_in z]; exact ho) q3
        have el := q4 (frzAt F H a1) H (frz d0) v0 [] (frzAt_le S.sub) (fun _ _ _ z => z) fz0
        rw [set_self h1, List.append_nil] at el
        have nd2 : (pre ++ post).Nodup := by
          have := List.nodup_append.mp nd
          obtain ⟨n1, n2, n3⟩ := this
          obtain ⟨m1, m2, m3⟩ := List.nodup_append.mp n1
          exact List.nodup_append.mpr ⟨m1, n2, fun a z b y => n3 a (List.mem_append_left _ z) b y⟩
        have stp : Step A H F (pre ++ post) H (frzAt F H a1) := Step.freeze S.sub sub1 sub2
        refine ⟨frzAt F H a1, pre ++ post, [], ?_, ⟨frzAt_sub S.sub, el, nd2, fun a z => ?_⟩, fz, .nil, fun a z => absurd z (by simp), fun a z => absurd z (by simp), sub2, stp⟩
        · exact (stp.more fun x z => List.mem_append_right _ z).less fun x z => by simpa using z
        · rw [frzAt_out (out a z)]; exact S.no a (sub2 a z)
      · cases ht
    · cases ht
theorem OkE.fin {B0 T : List Addr} {H0 F0 : Hp} {Q : VK} {d : D} (st : Step B0 H0 F0 (T ++ A) H F) (S : Sta K mg F H σ e A) (post : OkE K mg σ B0 H0 F0 Q (.val d, e)) : Gv K mg H F d Q := fun v H' F' cs st1 sub r nd no => by
  have st2 := st1.frame (T ++ A)
  rw [List.append_nil] at st2
  refine post v H' F' A cs ((st.trans st2).less fun x z => ?_) (S.past sub st1.le (fun a z o ho => st1.keep a o ho (by simp)) fun a z => ?_) ⟨r, nd, fun a z => ⟨fun q => ?_, no a z⟩⟩
  · rcases List.mem_append.mp z with q | q <;> simp [q]
  · cases q : F' a with
    | none => rfl
    | some o =>
      rcases st1.fr a (by rw [q]; simp) with w | w | w
      · exact absurd (S.no a z) w
      · exact absurd w (by simp)
      · exact absurd w (S.live z)
  · rcases st1.own a z with w | w
    · exact absurd w (by simp)
    · exact S.live q w
/-- the value itself -/
theorem OkE.same {B0 T as : List Addr} {H0 F0 : Hp} {Q : VK} {rv : RV} {v : V} (st : Step B0 H0 F0 (T ++ (as ++ A)) H F) (S : Sta K mg F H σ e A) (r : ResV K mg F H σ A v rv as) (post : OkE K mg σ B0 H0 F0 Q (rv, e)) : Q v H :=
  post v H F A as (st.less fun _ z => List.mem_append_right _ z) S r
end

section
variable {K : PySem.W.Frag} {mg : Str → Option Value} {F H H0 F0 : Hp} {σ : St} {e : En} {A B0 as : List Addr} {Q : VK} {v : V}
theorem OkE.valN {d : D} (st : Step B0 H0 F0 (as ++ A) H F) (S : Sta K mg F H σ e A) (r : Rep K mg F H d v as) (nd : as.Nodup) (dj : ∀ a ∈ as, a ∉ A ∧ F a = none) (post : OkE K mg σ B0 H0 F0 Q (.val d, e)) : Q v H :=
  post v H F A as st S ⟨r, nd, dj⟩
theorem OkE.val0 {d : D} (st : Step B0 H0 F0 A H F) (S : Sta K mg F H σ e A) (r : Rep K mg F H d v []) (post : OkE K mg σ B0 H0 F0 Q (.val d, e)) : Q v H :=
  post v H F A [] st S ⟨r, .nil, fun a z => absurd z (by simp)⟩
theorem OkE.han0 {i : Nat} {p : List Nat} (st : Step B0 H0 F0 A H F) (S : Sta K mg F H σ e A) (r : HanV H σ i p v) (post : OkE K mg σ B0 H0 F0 Q (.han i p, e)) : Q v H :=
  post v H F A [] st S ⟨rfl, r⟩
end
theorem stid {A : List Addr} {H F : Hp} : Step A H F A H F := Step.refl fun _ z => z
/-- what the module holds -/
structure ModOk (M : Gb) (K : PySem.W.Frag) (mg : Str → Option Value) : Prop where
  const : ∀ x d, M.consts.lookup x = some d → ∃ u v, mg x = some u ∧ RelV v u ∧ owned d = false ∧ ∀ F H, Rep K mg F H d v []
  defs : ∀ x, M.defs.contains x = true → ∃ a, mg x = some (.ref a)
  free : ∀ x, M.free.contains x = true → mg x = none
  nm : ∀ x, (∃ d, M.consts.lookup x = some d) ∨ M.defs.contains x = true ∨ M.free.contains x = true → (x == ("__debug__" : Str)) = false ∧ x ≠ "__name__"

/-- a def that is called with room, no repr under way -/
structure FnG (P : Program) (w : World) (K : PySem.W.Frag) (mg : Str → Option Value) (base : Heap) (CX : CXT) (k : Nat) (f : Addr) (fd : FuncData) (ps : List Str) (sp : Sp) : Prop where
  len : ∀ vs H Q E, sp vs H Q E → vs.length = ps.length
  run : ∀ (A : Around) (outer : List PySem.Env) (s : Shared) (H : Hp) (args : Args) (us : List Value) (vs : List V) (Q : VK) (E : XK), Room k A → A.guards = some [] → Env0 P w K mg base A outer s H → BindsTo s fd args (ps.zip us) → Vals vs us → sp vs H Q E →
    codeAny (model P w) A (.call (.ref f) args) (CR CX outer P w H s Q E) s

/-- the promise of a def by its evaluation -/
def spC (K : PySem.W.Frag) (mg : Str → Option Value) (cl : Cl) (f : Str) : Sp := fun vs H Q E => ∃ ds F A, Sta K mg F H (vs.map some) (ds.map some) A ∧ (match cl f ds with
  | .ok (d, outs) => ∀ v H' F' A' as, Step A H F (as ++ A') H' F' → Sta K mg F' H' (vs.map some) outs A' → Rep K mg F' H' d v as → as.Nodup → (∀ a ∈ as, a ∉ A' ∧ F' a = none) → Q v H'
  | .err _ _ _ => False
  | .stuck => False)

structure Good (M : Gb) (cl : Cl) (G : Cn) (k : Nat) (W : WX) (X : Cx) : Prop where
  N : X.N = G.N
  sc : X.env.scope = G.sc
  fn : X.fn = G.fnc
  nd : G.N.Nodup
  nn : ∀ x ∈ G.N, (x == ("__debug__" : Str)) = false ∧ (x == ("__classdict__" : Str)) = false
  mod : ModOk M X.K X.mg
  calm : X.calm = true
  room : Room k X.A
  guards : X.A.guards = some []
  takes : Takes X W
  own : PassesOwn (model X.prog X.w) X.A X.env X.xe
  calls : ∀ f, M.defs.contains f = true → ∃ fa fd ps, X.mg f = some (.ref fa) ∧ PySem.W.keepIn X.K (.ref fa) = true ∧ Binds X.K fd ps [] ∧ FnG X.prog X.w X.K X.mg X.base (L2.CX X.prog X.w) k fa fd ps (spC X.K X.mg cl f)

section
variable {M : Gb} {cl : Cl} {G : Cn} {k : Nat} {W : WX} {X : Cx}
theorem Good.kind (g : Good M cl G k W X) (x : Str) : X.env.kindOf x = G.kind x := by
  show X.env.scope.names.lookup x = G.sc.names.lookup x
  rw [g.sc]
theorem Good.vis (g : Good M cl G k W X) {x : Str} (h : G.vis x = true) : Vis X.env.scope x := by
  unfold Cn.vis at h
  unfold Vis
  rw [g.sc]
  unfold Cn.kind at h
  split at h <;> first | (rename_i q; exact .inl q) | (rename_i q; exact .inr (.inl q)) | (rename_i q; exact .inr (.inr q)) | cases h
theorem Good.loc (g : Good M cl G k W X) {x : Str} (h : G.loc x = true) : L2.Loc X.env.scope x ∧ (X.fn x = true ∨ X.env.scope.names.lookup x = some .local) := by
  unfold Cn.loc at h
  unfold L2.Loc
  rw [g.sc, g.fn]
  unfold Cn.kind at h
  split at h
  · rename_i q; exact ⟨.inl q, .inr q⟩
  · rename_i q; exact ⟨.inr q, .inl h⟩
  · cases h
theorem Good.glob (g : Good M cl G k W X) {x : Str} (h : G.glob x = true) : Gl X x := by
  unfold Cn.glob at h
  show X.env.kindOf x = _
  rw [g.kind]
  split at h
  · rename_i q; exact q
  · cases h
theorem Good.at_ (g : Good M cl G k W X) {x : Str} {i : Nat} (h : slotOf G.N x = some i) : X.N[i]? = some x := by rw [g.N]; exact slotOf_at h
theorem Good.dbg (g : Good M cl G k W X) {x : Str} {i : Nat} (h : slotOf G.N x = some i) : (x == ("__debug__" : Str)) = false ∧ (x == ("__classdict__" : Str)) = false := g.nn x (List.mem_of_getElem? (slotOf_at h))

/-- a constant -/
theorem sE_const {x : Expr} {v : V} {d : D} (h : PE X x (tC v)) (r : ∀ F H, Rep X.K X.mg F H d v []) {f : En → R (RV × En)} (hf : ∀ e, f e = .ok (.val d, e)) : PE X x (tE X.K X.mg W f) := PE.imp h fun σ H Q ⟨e, F, A, S, post⟩ => by
  rw [hf] at post
  exact OkE.val0 stid S (r F H) post
/-- a name -/
theorem sE_name (g : Good M cl G k W X) (x : Str) (pos : Pos) : PE X (.Name x pos) (tE X.K X.mg W (nameE M G x)) := by
  cases hs : slotOf G.N x with
  | some i =>
    by_cases hv : G.vis x = true
    · obtain ⟨h1, h2⟩ := g.dbg hs
      refine PE.imp (pe_var (g.at_ hs) (g.vis hv) h1 h2) fun σ H Q ⟨e, F, A, S, post⟩ => ?_
      unfold nameE at post
      rw [hs] at post
      simp only [hv, if_true] at post
      cases hd : getE e i with
      | none => rw [hd] at post; exact post.elim
      | some d =>
        rw [hd] at post
        have post : OkE X.K X.mg σ A H F Q (if owned d = true then .han i [] else .val d, e) := post
        obtain ⟨v, pre, a1, po, q1, q2, q3, _⟩ := EL.at S.el hd
        refine ⟨v, q1, ?_⟩
        by_cases ho : owned d = true
        · rw [if_pos ho] at post
          exact OkE.han0 (i := i) (p := []) stid S ⟨v, q1, rfl⟩ post
        · rw [if_neg ho] at post
          rw [Rep.bare (by simpa using ho) q3] at q3
          exact OkE.val0 stid S (q3) post
    · refine ⟨fun pins s σ H Q I ⟨e, F, A, S, post⟩ => ?_⟩
      unfold nameE at post
      rw [hs] at post
      simp only [hv] at post
      exact post.elim
  | none =>
    by_cases hv : G.glob x = true
    · have gl := g.glob hv
      cases hc : M.consts.lookup x with
      | some d =>
        obtain ⟨u, v, hm, rv, ho, rp⟩ := g.mod.const x d hc
        refine PE.imp (pe_glob gl hm rv (g.mod.nm x (.inl ⟨d, hc⟩)).1) fun σ H Q ⟨e, F, A, S, post⟩ => ?_
        unfold nameE at post
        rw [hs] at post
        simp only [hv, if_true, hc] at post
        exact OkE.val0 stid S (rp F H) post
      | none =>
        by_cases hd : M.defs.contains x = true
        · obtain ⟨a, hm⟩ := g.mod.defs x hd
          refine PE.imp (pe_glob (v := .ref a) gl hm rfl (g.mod.nm x (.inr (.inl hd))).1) fun σ H Q ⟨e, F, A, S, post⟩ => ?_
          unfold nameE at post
          rw [hs] at post
          simp only [hv, if_true, hc, hd] at post
          exact OkE.val0 stid S (by simp only [Rep]; exact ⟨trivial, a, rfl, hm⟩) post
        · by_cases hf : M.free.contains x = true
          · cases ht : tyName x with
            | some t =>
              obtain ⟨n1, n2⟩ := g.mod.nm x (.inr (.inr hf))
              refine PE.imp (pe_bltn (v := .ty t) gl (g.mod.free x hf) (boot_ty ht) rfl n2 n1) fun σ H Q ⟨e, F, A, S, post⟩ => ?_
              unfold nameE at post
              rw [hs] at post
              simp only [hv, if_true, hc, hd, hf, ht] at post
              exact OkE.val0 stid S (by simp only [Rep]; exact ⟨trivial, trivial⟩) post
            | none =>
              refine ⟨fun pins s σ H Q I ⟨e, F, A, S, post⟩ => ?_⟩
              unfold nameE at post
              rw [hs] at post
              simp only [hv, if_true, hc, hd, hf, ht] at post
              exact post.elim
          · refine ⟨fun pins s σ H Q I ⟨e, F, A, S, post⟩ => ?_⟩
            unfold nameE at post
            rw [hs] at post
            simp only [hv, if_true, hc, hd, hf] at post
            exact post.elim
    · refine ⟨fun pins s σ H Q I ⟨e, F, A, S, post⟩ => ?_⟩
      unfold nameE at post
      rw [hs] at post
      simp only [hv] at post
      exact post.elim

/-- a road of a step or more is left -/
theorem sole_flat {e e' : En} {v v' : RV} (h : sole e v = .ok (v', e')) : flat v' = true := by
  unfold sole at h
  split at h
  · unfold R.bind at h
    split at h <;> first | (cases h; rfl) | cases h
  · rename_i hne
    simp only [R.ok.injEq, Prod.mk.injEq] at h
    rw [← h.1]
    cases v with
    | val d => rfl
    | han i p =>
      cases p with
      | nil => rfl
      | cons j p => exact absurd rfl (hne i j p)
theorem sE_sole {x : Expr} {f : En → R (RV × En)} (h : PE X x (tE X.K X.mg W f)) : PE X x (tE X.K X.mg W fun e => (f e).bind fun (v, e1) => sole e1 v) := by
  refine ⟨fun pins s σ H Q I ⟨e, F, A, S, post⟩ => ?_⟩
  refine seqE (T := []) h I S (Step.refl fun _ z => by simpa using z) post fun rv e' hf v u s' H' F' A' as I' r st st0 S' res post => ?_
  simp only [List.nil_append] at st0
  cases rv with
  | val d => exact ⟨v, H', I', r, OkE.same (T := []) (by simpa using st0) S' res post⟩
  | han i p =>
    cases p with
    | nil => exact ⟨v, H', I', r, OkE.same (T := []) (by simpa using st0) S' res post⟩
    | cons j p =>
      simp only [sole] at post
      cases ht : take e' (.han i (j :: p)) with
      | ok y =>
        obtain ⟨d, e2⟩ := y
        rw [ht] at post
        have has : as = [] := res.1
        obtain ⟨F2, A2, as2, t1, S2, rp, nd, dj, _, _, _⟩ := take_ok S' res (fun a z => by rw [has] at z; exact absurd z (by simp)) ht
        exact ⟨v, H', I', r, OkE.valN (st0.trans t1) S2 rp nd dj post⟩
      | err _ _ _ => exact (take_noerr ht).elim
      | stuck => rw [ht] at post; exact post.elim

/-- a op b -/
theorem sE_bin {a b : Expr} {op : Operator} {pos : Pos} {fa fb : En → R (RV × En)} (ha : PE X a (tE X.K X.mg W fa)) (hb : PE X b (tE X.K X.mg W fb)) (ga : ∀ e v e', fa e = .ok (v, e') → flat v = true) :
    PE X (.BinOp a op b pos) (tE X.K X.mg W fun e => (fa e).bind fun (va, e1) => (fb e1).bind fun (vb, e2) => match content e2 va, content e2 vb with
      | some x, some y => (ofO (binop op x y)).bind fun d => .ok (.val d, e2)
      | _, _ => .stuck) := by
  refine ⟨fun pins s σ H Q I ⟨e, F, A, S, post⟩ => wpAny_BinOp ?_⟩
  refine seqE (T := []) ha I S (Step.refl fun _ z => by simpa using z) post fun va e1 h1 v u s1 H1 F1 A1 as1 I1 r1 st1 st01 S1 res1 post => ?_
  refine seqE (T := as1) hb I1 S1 (by simpa using st01) post fun vb e2 h2 y w s2 H2 F2 A2 as2 I2 r2 st2 st02 S2 res2 post => ?_
  obtain ⟨res1', dj⟩ := res1.past (ga _ _ _ h1) st2
  cases ca : content e2 va with
  | none => simp only [ca] at post; exact post.elim
  | some x =>
    cases cb : content e2 vb with
    | none => simp only [ca, cb] at post; exact post.elim
    | some z =>
      simp only [ca, cb] at post
      obtain ⟨a1, p1, _⟩ := ResV.content S2 res1' ca
      obtain ⟨a2, p2, _⟩ := ResV.content S2 res2 cb
      cases hd : binop op x z with
      | some d =>
        rw [hd] at post
        exact binop_ok I2 r1 r2 S2.sub p1 p2 hd (OkE.fin (T := as1 ++ as2) (by simpa [List.append_assoc] using st02) S2 post)
      | none => rw [hd] at post; exact post.elim
end
end Ev

set_option Elab.async false
set_option linter.all false
set_option maxRecDepth 100000
set_option maxHeartbeats 1000000
/-! Ev9: further expressions; tests; arguments. -/
namespace Ev
open PySem L2
open PyProof.Rows (UnaryOp_ not_of BoolOp_and BoolOp_or BoolOp_one isTrue_and isTrue_or isTrue_not isTrue_plain)

section
variable {M : Gb} {cl : Cl} {G : Cn} {k : Nat} {W : WX} {X : Cx}

/-- not a, as a value -/
theorem sE_not {a : Expr} {pos : Pos} {fa : En → R (RV × En)} (ha : PE X a (tE X.K X.mg W fa)) :
    PE X (.UnaryOp .Not a pos) (tE X.K X.mg W fun e => (fa e).bind fun (v, e1) => match content e1 v with | some d => (ofO (truth d)).bind fun b => .ok (.val (.bl !b), e1) | none => .stuck) := by
  refine ⟨fun pins s σ H Q I ⟨e, F, A, S, post⟩ => UnaryOp_ ?_⟩
  refine seqE (T := []) ha I S (Step.refl fun _ z => by simpa using z) post fun va e1 h1 v u s1 H1 F1 A1 as1 I1 r1 st1 st01 S1 res1 post => ?_
  cases ca : content e1 va with
  | none => simp only [ca] at post; exact post.elim
  | some x =>
    simp only [ca] at post
    obtain ⟨a1, p1, _⟩ := ResV.content S1 res1 ca
    cases ht : truth x with
    | some b =>
      rw [ht] at post
      refine not_of (thn (truth_ok (Q := fun c H' => c = b ∧ H' = H1) I1 r1 S1.sub p1 ht ⟨rfl, rfl⟩) fun c s2 ⟨H2, I2, e1, e2⟩ => ?_)
      subst e1; subst e2
      exact ⟨.bl !c, H2, I2, rfl, (OkE.fin (T := as1) (by simpa using st01) S1 post).bl S1.sub⟩
    | none => rw [ht] at post; exact post.elim
/-- -a -/
theorem sE_neg {a : Expr} {pos : Pos} {fa : En → R (RV × En)} (ha : PE X a (tE X.K X.mg W fa)) :
    PE X (.UnaryOp .USub a pos) (tE X.K X.mg W fun e => (fa e).bind fun (va, e1) => match content e1 va with
      | some (.int i) => .ok (.val (.int (-i)), e1)
      | _ => .stuck) := by
  refine ⟨fun pins s σ H Q I ⟨e, F, A, S, post⟩ => UnaryOp_ ?_⟩
  refine seqE (T := []) ha I S (Step.refl fun _ z => by simpa using z) post fun va e1 h1 v u s1 H1 F1 A1 as1 I1 r1 st1 st01 S1 res1 post => ?_
  cases ca : content e1 va with
  | none => simp only [ca] at post; exact post.elim
  | some x =>
    obtain ⟨a1, p1, _⟩ := ResV.content S1 res1 ca
    cases x <;> simp only [ca] at post <;> first | exact post.elim | skip
    exact un_neg pins s1 σ H1 v u Q I1 r1 ⟨_, rep_int p1, (OkE.fin (T := as1) (by simpa using st01) S1 post).int S1.sub⟩
/-- a if t else b -/
theorem sE_if {c a b : Expr} {pos : Pos} {fc : En → R (Bool × En)} {fa fb : En → R (RV × En)} (hc : PT X c (tT X.K X.mg W fc)) (ha : PE X a (tE X.K X.mg W fa)) (hb : PE X b (tE X.K X.mg W fb)) :
    PE X (.IfExp c a b pos) (tE X.K X.mg W fun e => (fc e).bind fun (c, e1) => if c then fa e1 else fb e1) := by
  refine ⟨fun pins s σ H Q I ⟨e, F, A, S, post⟩ => wpAny_IfExp ?_⟩
  refine seqT (T := []) hc I S (Step.refl fun _ z => by simpa using z) post fun c e1 h1 s1 H1 F1 A1 I1 st1 st01 S1 post => ?_
  have st01 : Step A H F A1 H1 F1 := by simpa using st01
  have tail : ∀ {x : Expr} {f : En → R (RV × En)}, PE X x (tE X.K X.mg W f) → PostG W σ A H F (f e1) (OkE X.K X.mg σ A H F Q) → wpAny (model X.prog X.w) X.A (eval x X.env) (EP X pins σ Q) X.xe s1 := fun {x f} hx post => by
    refine hx.run pins s1 σ H1 Q I1 ⟨e1, F1, A1, S1, ?_⟩
    cases hf : f e1 with
    | ok y =>
      rw [hf] at post
      exact fun v H' F' A' as st S' res => post v H' F' A' as (st01.trans st) S' res
    | err _ _ _ => rw [hf] at post; exact ErrP.past st01 post
    | stuck => rw [hf] at post; exact post.elim
  cases c with
  | true => rw [if_pos rfl]; exact tail ha post
  | false => rw [if_neg Bool.false_ne_true]; exact tail hb post
/-- the rest of an evaluation from a later state -/
theorem PostG.past {β : Type} {σ : St} {B B' : List Addr} {H F H' F' : Hp} {r : R β} {φ ψ : β → Prop} (st : Step B H F B' H' F') (h : PostG W σ B H F r φ) (i : ∀ b, φ b → ψ b) : PostG W σ B' H' F' r ψ := by
  cases r with
  | ok b => exact i b h
  | err _ _ _ => exact ErrP.past st h
  | stuck => exact h
theorem PostG.any {β : Type} {σ σ' : St} {B : List Addr} {H F : Hp} {r : R β} {φ : β → Prop} (h : PostG W σ B H F r φ) : PostG W σ' B H F r φ := by
  cases r with
  | ok b => exact h
  | err _ _ _ => exact ⟨h.no⟩
  | stuck => exact h
theorem OkE.past {K : PySem.W.Frag} {mg : Str → Option Value} {σ : St} {B B' : List Addr} {H F H' F' : Hp} {Q : VK} {x : RV × En} (st : Step B H F B' H' F') (h : OkE K mg σ B H F Q x) : OkE K mg σ B' H' F' Q x :=
  fun v H2 F2 A2 as st2 S res => h v H2 F2 A2 as (st.trans st2) S res
theorem OkT.past {K : PySem.W.Frag} {mg : Str → Option Value} {σ : St} {B B' : List Addr} {H F H' F' : Hp} {Q : Bool → Hp → Prop} {x : Bool × En} (st : Step B H F B' H' F') (h : OkT K mg σ B H F Q x) : OkT K mg σ B' H' F' Q x :=
  fun H2 F2 A2 st2 S => h H2 F2 A2 (st.trans st2) S
/-- a and b, a or b: the first part decides, or the rest is asked -/
theorem sE_and {op : BoolOp} {a b : Expr} {r : List Expr} {pos : Pos} {fa fr : En → R (RV × En)} (ha : PE X a (tE X.K X.mg W fa)) (hr : PE X (.BoolOp op (b :: r) pos) (tE X.K X.mg W fr)) :
    PE X (.BoolOp op (a :: b :: r) pos) (tE X.K X.mg W fun e => (fa e).bind fun (v, e1) => match content e1 v with
      | some d => (ofO (truth d)).bind fun c => if stops op c then .ok (v, e1) else fr e1
      | none => .stuck) := by
  refine ⟨fun pins s σ H Q I ⟨e, F, A, S, post⟩ => ?_⟩
  have first : wpAny (model X.prog X.w) X.A (eval a X.env) (fun u s1 => wpAny (model X.prog X.w) X.A (truthy u) (fun c s2 => ∃ v H2 F2 A2 as2 va e2, Inv X pins σ H2 s2 ∧ RelV v u ∧ Step A H F (as2 ++ A2) H2 F2 ∧ Sta X.K X.mg F2 H2 σ e2 A2 ∧ ResV X.K X.mg F2 H2 σ A2 v va as2 ∧
      PostG W σ A H F (if stops op c then .ok (va, e2) else fr e2) (OkE X.K X.mg σ A H F Q)) X.xe s1) X.xe s := by
    refine seqE (T := []) ha I S (Step.refl fun _ z => by simpa using z) post fun va e1 h1 v u s1 H1 F1 A1 as1 I1 r1 st1 st01 S1 res1 post => ?_
    cases ca : content e1 va with
    | none => simp only [ca] at post; exact post.elim
    | some x =>
      simp only [ca] at post
      obtain ⟨a1, p1, _⟩ := ResV.content S1 res1 ca
      cases ht : truth x with
      | some c =>
        rw [ht] at post
        refine thn (truth_ok (Q := fun c' H' => c' = c ∧ H' = H1) I1 r1 S1.sub p1 ht ⟨rfl, rfl⟩) fun c' s2 ⟨H2, I2, e1', e2'⟩ => ?_
        subst e1'; subst e2'
        exact ⟨v, H2, F1, A1, as1, va, e1, I2, r1, by simpa using st01, S1, res1, post⟩
      | none => rw [ht] at post; exact post.elim
  have rest : ∀ {s2 : Shared} {H2 F2 : Hp} {A2 as2 : List Addr} {e2 : En}, Inv X pins σ H2 s2 → Step A H F (as2 ++ A2) H2 F2 → Sta X.K X.mg F2 H2 σ e2 A2 → PostG W σ A H F (fr e2) (OkE X.K X.mg σ A H F Q) → wpAny (model X.prog X.w) X.A (eval (.BoolOp op (b :: r) pos) X.env) (EP X pins σ Q) X.xe s2 :=
    fun {s2 H2 F2 A2 as2 e2} I2 st S2 post => by
      have st' : Step A H F A2 H2 F2 := st.less fun _ z => List.mem_append_right _ z
      exact hr.run pins s2 σ H2 Q I2 ⟨e2, F2, A2, S2, post.past st' fun b hb => hb.past st'⟩
  cases op with
  | And =>
    refine BoolOp_and (thn first fun u s1 h => thn h fun c s2 ⟨v, H2, F2, A2, as2, va, e2, I2, rv, st, S2, res, post⟩ => ?_)
    cases c with
    | true => rw [if_pos rfl]; exact rest I2 st S2 (by simpa [stops] using post)
    | false => rw [if_neg Bool.false_ne_true]; exact ⟨v, H2, I2, rv, (show OkE X.K X.mg σ A H F Q (va, e2) by simpa [stops, PostG] using post) v H2 F2 A2 as2 st S2 res⟩
  | Or =>
    refine BoolOp_or (thn first fun u s1 h => thn h fun c s2 ⟨v, H2, F2, A2, as2, va, e2, I2, rv, st, S2, res, post⟩ => ?_)
    cases c with
    | false => rw [if_neg Bool.false_ne_true]; exact rest I2 st S2 (by simpa [stops] using post)
    | true => rw [if_pos rfl]; exact ⟨v, H2, I2, rv, (show OkE X.K X.mg σ A H F Q (va, e2) by simpa [stops, PostG] using post) v H2 F2 A2 as2 st S2 res⟩

/-- two operands and what is made of them -/
theorem two_ops {a b : Expr} {pins : List (Addr × Obj)} {s : Shared} {σ : St} {H F : Hp} {e : En} {A : List Addr} {β : Type} {φ : β → Prop} {g : RV → RV → En → R β} {fa fb : En → R (RV × En)} {P : Value → Value → Shared → Prop}
    (ha : PE X a (tE X.K X.mg W fa)) (hb : PE X b (tE X.K X.mg W fb)) (ga : ∀ e v e', fa e = .ok (v, e') → flat v = true) (I : Inv X pins σ H s) (S : Sta X.K X.mg F H σ e A)
    (post : PostG W σ A H F ((fa e).bind fun (va, e1) => (fb e1).bind fun (vb, e2) => g va vb e2) φ)
    (kk : ∀ va vb e2 v w u1 u2 s2 H2 F2 A2 as1 as2, (∃ e1, fb e1 = .ok (vb, e2)) → flat va = true → Inv X pins σ H2 s2 → RelV v u1 → RelV w u2 → Step A H F (as1 ++ (as2 ++ A2)) H2 F2 → Sta X.K X.mg F2 H2 σ e2 A2 → ResV X.K X.mg F2 H2 σ A2 v va as1 → ResV X.K X.mg F2 H2 σ A2 w vb as2 → (∀ a ∈ as1, a ∉ as2) →
      PostG W σ A H F (g va vb e2) φ → P u1 u2 s2) :
    wpAny (model X.prog X.w) X.A (eval a X.env) (fun u1 s1 => wpAny (model X.prog X.w) X.A (eval b X.env) (fun u2 s2 => P u1 u2 s2) X.xe s1) X.xe s := by
  refine seqE (T := []) ha I S (Step.refl fun _ z => by simpa using z) post fun va e1 h1 v u s1 H1 F1 A1 as1 I1 r1 st1 st01 S1 res1 post => ?_
  refine seqE (T := as1) hb I1 S1 (by simpa using st01) post fun vb e2 h2 y w s2 H2 F2 A2 as2 I2 r2 st2 st02 S2 res2 post => ?_
  obtain ⟨res1', dj⟩ := res1.past (ga _ _ _ h1) st2
  exact kk va vb e2 v y u w s2 H2 F2 A2 as1 as2 ⟨e1, h2⟩ (ga _ _ _ h1) I2 r1 r2 st02 S2 res1' res2 dj post
/-- a < b and its kin: the answer c -/
theorem cmp_run {op : CmpOp} {va vb : RV} {e2 : En} {v w : V} {u1 u2 : Value} {s2 : Shared} {H2 F2 : Hp} {A2 as1 as2 : List Addr} {pins : List (Addr × Obj)} {σ : St} {x y : D} {c : Bool} {Q : VK} (hr : Room k X.A) (I2 : Inv X pins σ H2 s2) (r1 : RelV v u1) (r2 : RelV w u2) (S2 : Sta X.K X.mg F2 H2 σ e2 A2)
    (res1 : ResV X.K X.mg F2 H2 σ A2 v va as1) (res2 : ResV X.K X.mg F2 H2 σ A2 w vb as2) (ca : content e2 va = some x) (cb : content e2 vb = some y) (h : cmpop op x y = some c) (q : Q (.bl c) H2) :
    wpAny (model X.prog X.w) X.A (compareOp op u1 u2) (EP X pins σ Q) X.xe s2 := by
  obtain ⟨a1, p1, _⟩ := ResV.content S2 res1 ca
  obtain ⟨a2, p2, _⟩ := ResV.content S2 res2 cb
  exact cmpop_ok hr I2 r1 r2 S2.sub p1 p2 h q
abbrev fCmp (op : CmpOp) (fa fb : En → R (RV × En)) : En → R (RV × En) := fun e => (fa e).bind fun (va, e1) => (fb e1).bind fun (vb, e2) => match content e2 va, content e2 vb with
  | some x, some y => (ofO (cmpop op x y)).bind fun c => .ok (.val (.bl c), e2)
  | _, _ => .stuck
theorem plain_nomark {op : CmpOp} (b : Expr) (h : plainOp op = true) : behindInMarks op b = false := nomark b (fun e => by subst e; cases h) fun e => by subst e; cases h
theorem sE_cmp {op : CmpOp} {a b : Expr} {pos : Pos} {fa fb : En → R (RV × En)} (g : Good M cl G k W X) (hp : plainOp op = true) (ha : PE X a (tE X.K X.mg W fa)) (hb : PE X b (tE X.K X.mg W fb)) (ga : ∀ e v e', fa e = .ok (v, e') → flat v = true) :
    PE X (.Compare a [op] [b] pos) (tE X.K X.mg W (fCmp op fa fb)) := by
  refine ⟨fun pins s σ H Q I ⟨e, F, A, S, post⟩ => wpAny_Compare1 ?_ (plain_nomark b hp)⟩
  refine two_ops ha hb ga I S (g := fun va vb e2 => match content e2 va, content e2 vb with
    | some x, some y => (ofO (cmpop op x y)).bind fun c => R.ok (RV.val (.bl c), e2)
    | _, _ => R.stuck) post fun va vb e2 v w u1 u2 s2 H2 F2 A2 as1 as2 _ _ I2 r1 r2 st S2 res1 res2 dj post => ?_
  cases ca : content e2 va with
  | none => simp only [ca] at post; exact post.elim
  | some x =>
    cases cb : content e2 vb with
    | none => simp only [ca, cb] at post; exact post.elim
    | some z =>
      simp only [ca, cb] at post
      cases hd : cmpop op x z with
      | some c =>
        rw [hd] at post
        exact cmp_run g.room I2 r1 r2 S2 res1 res2 ca cb hd ((OkE.fin (T := as1 ++ as2) (by simpa [List.append_assoc] using st) S2 post).bl S2.sub)
      | none => rw [hd] at post; exact post.elim
end
end Ev

set_option Elab.async false
set_option linter.all false
set_option maxRecDepth 100000
set_option maxHeartbeats 1000000
/-! Ev10: readings put together; displays, items, slices, tests, arguments. -/
namespace Ev
open PySem L2

section
variable {K : PySem.W.Frag} {mg : Str → Option Value} {W : WX} {σ : St} {H F H0 F0 : Hp} {e : En} {A B0 T : List Addr} {β : Type} {φ : β → Prop}
theorem tE_of {f : En → R (RV × En)} {R : VK} (S : Sta K mg F H σ e A) {g : RV × En → Ev.R β} (st0 : Step B0 H0 F0 (T ++ A) H F) (post : PostG W σ B0 H0 F0 ((f e).bind g) φ)
    (k : ∀ rv e', f e = .ok (rv, e') → ∀ v H' F' A' as, Step A H F (as ++ A') H' F' → Step B0 H0 F0 (T ++ (as ++ A')) H' F' → Sta K mg F' H' σ e' A' → ResV K mg F' H' σ A' v rv as → PostG W σ B0 H0 F0 (g (rv, e')) φ → R v H') : tE K mg W f σ H R := by
  refine ⟨e, F, A, S, ?_⟩
  cases hf : f e with
  | ok y =>
    rw [hf] at post
    exact fun v H' F' A' as h1 h2 h3 => k y.1 y.2 hf v H' F' A' as h1 (st0.trans (h1.frame T)) h2 h3 post
  | err c fs e' => rw [hf] at post; exact ErrP.before st0 post
  | stuck => rw [hf] at post; exact post
theorem tT_of {f : En → R (Bool × En)} {R : Bool → Hp → Prop} (S : Sta K mg F H σ e A) {g : Bool × En → Ev.R β} (st0 : Step B0 H0 F0 (T ++ A) H F) (post : PostG W σ B0 H0 F0 ((f e).bind g) φ)
    (k : ∀ b e', f e = .ok (b, e') → ∀ H' F' A', Step A H F A' H' F' → Step B0 H0 F0 (T ++ A') H' F' → Sta K mg F' H' σ e' A' → PostG W σ B0 H0 F0 (g (b, e')) φ → R b H') : tT K mg W f σ H R := by
  refine ⟨e, F, A, S, ?_⟩
  cases hf : f e with
  | ok y =>
    rw [hf] at post
    exact fun H' F' A' h1 h2 => k y.1 y.2 hf H' F' A' h1 (st0.trans (h1.frame T)) h2 post
  | err c fs e' => rw [hf] at post; exact ErrP.before st0 post
  | stuck => rw [hf] at post; exact post
theorem tA_of {f : En → R (List RV × En)} {R : List V → Hp → Prop} (S : Sta K mg F H σ e A) {g : List RV × En → Ev.R β} (st0 : Step B0 H0 F0 (T ++ A) H F) (post : PostG W σ B0 H0 F0 ((f e).bind g) φ)
    (k : ∀ rvs e', f e = .ok (rvs, e') → ∀ vs H' F' A' as, Step A H F (as ++ A') H' F' → Step B0 H0 F0 (T ++ (as ++ A')) H' F' → Sta K mg F' H' σ e' A' → ResVs K mg F' H' σ A' vs rvs as → PostG W σ B0 H0 F0 (g (rvs, e')) φ → R vs H') : tA K mg W f σ H R := by
  refine ⟨e, F, A, S, ?_⟩
  cases hf : f e with
  | ok y =>
    rw [hf] at post
    exact fun vs H' F' A' as h1 h2 h3 => k y.1 y.2 hf vs H' F' A' as h1 (st0.trans (h1.frame T)) h2 h3 post
  | err c fs e' => rw [hf] at post; exact ErrP.before st0 post
  | stuck => rw [hf] at post; exact post
/-- a part of a slice -/
def OkP (K : PySem.W.Frag) (mg : Str → Option Value) (σ : St) (B : List Addr) (H F : Hp) (Q : Option Int → Hp → Prop) : Option Int × En → Prop := fun x =>
  ∀ H' F' A', Step B H F A' H' F' → Sta K mg F' H' σ x.2 A' → Q x.1 H'
def tO (K : PySem.W.Frag) (mg : Str → Option Value) (W : WX) (f : En → R (Option Int × En)) : TO := fun σ H Q =>
  ∃ e F A, Sta K mg F H σ e A ∧ PostG W σ A H F (f e) (OkP K mg σ A H F Q)
theorem tO_of {f : En → R (Option Int × En)} {R : Option Int → Hp → Prop} (S : Sta K mg F H σ e A) {g : Option Int × En → Ev.R β} (st0 : Step B0 H0 F0 (T ++ A) H F) (post : PostG W σ B0 H0 F0 ((f e).bind g) φ)
    (k : ∀ b e', f e = .ok (b, e') → ∀ H' F' A', Step A H F A' H' F' → Step B0 H0 F0 (T ++ A') H' F' → Sta K mg F' H' σ e' A' → PostG W σ B0 H0 F0 (g (b, e')) φ → R b H') : tO K mg W f σ H R := by
  refine ⟨e, F, A, S, ?_⟩
  cases hf : f e with
  | ok y =>
    rw [hf] at post
    exact fun H' F' A' h1 h2 => k y.1 y.2 hf H' F' A' h1 (st0.trans (h1.frame T)) h2 post
  | err c fs e' => rw [hf] at post; exact ErrP.before st0 post
  | stuck => rw [hf] at post; exact post
theorem nilA {A : List Addr} {H F : Hp} : Step A H F ([] ++ A) H F := Step.refl fun _ z => by simpa using z
theorem takes_noerr : ∀ {rvs : List RV} {e e1 : En} {c : Str} {fs : List (Str × D)}, takes e rvs = .err c fs e1 → False
  | [], e, e1, c, fs, h => by cases h
  | rv :: rvs, e, e1, c, fs, h => by
    unfold takes at h
    cases q : take e rv with
    | ok y =>
      rw [q] at h
      simp only [R.bind] at h
      cases q2 : takes y.2 rvs with
      | ok z => rw [q2] at h; cases h
      | err _ _ _ => exact takes_noerr q2
      | stuck => rw [q2] at h; cases h
    | err _ _ _ => exact take_noerr q
    | stuck => rw [q] at h; cases h
/-- what is kept of several values -/
theorem takes_ok : ∀ {rvs : List RV} {e e' : En} {F : Hp} {A as : List Addr} {vs : List V} {ds : List D}, Sta K mg F H σ e A → ResVs K mg F H σ A vs rvs as → takes e rvs = .ok (ds, e') →
    ∃ F' A' as', Step (as ++ A) H F (as' ++ A') H F' ∧ Sta K mg F' H σ e' A' ∧ ReL K mg F' H ds vs as' ∧ as'.Nodup ∧ (∀ a ∈ as', a ∉ A' ∧ F' a = none) ∧ (∀ a ∈ as', a ∈ as) ∧ (∀ a ∈ A', a ∈ A) ∧ Step A H F A' H F'
  | [], e, e', F, A, as, vs, ds, S, h, ht => by
    simp only [takes, R.ok.injEq, Prod.mk.injEq] at ht
    obtain ⟨e1, e2⟩ := ht
    subst e1; subst e2
    simp only [ResVs] at h
    obtain ⟨e1, e2⟩ := h
    subst e1; subst e2
    exact ⟨F, A, [], Step.refl fun _ z => z, S, by simp [ReL], .nil, fun a z => absurd z (by simp), fun _ z => z, fun _ z => z, Step.refl fun _ z => z⟩
  | rv :: rvs, e, e', F, A, as, vs, ds, S, h, ht => by
    simp only [ResVs] at h
    obtain ⟨v, r, a1, a2, e1, e2, fl, h1, h2, dj⟩ := h
    subst e1; subst e2
    unfold takes at ht
    cases q : take e rv with
    | err _ _ _ => exact (take_noerr q).elim
    | stuck => rw [q] at ht; cases ht
    | ok y =>
      obtain ⟨d, e1⟩ := y
      rw [q] at ht
      simp only [R.bind] at ht
      have ha1 : ∀ a ∈ a1, a ∉ A := fun a z => by
        cases rv with
        | val d => exact (h1.2.2 a z).1
        | han i p => rw [h1.1] at z; exact absurd z (by simp)
      obtain ⟨F1, A1, b1, s1, S1, r1, n1, d1, i1, j1, t1⟩ := take_ok S h1 ha1 q
      cases q2 : takes e1 rvs with
      | err _ _ _ => exact (takes_noerr q2).elim
      | stuck => rw [q2] at ht; cases ht
      | ok z =>
        obtain ⟨ds2, e2⟩ := z
        rw [q2] at ht
        simp only [R.ok.injEq, Prod.mk.injEq] at ht
        obtain ⟨x1, x2⟩ := ht
        subst x1; subst x2
        obtain ⟨h2', _⟩ := ResVs.past (as' := []) h2 (by simpa using t1)
        obtain ⟨F2, A2, b2, s2, S2, r2, n2, d2, i2, j2, t2⟩ := takes_ok S1 h2' q2
        -- the first datum behind the taking of the others
        obtain ⟨w1, _⟩ := ResV.past (σ := σ) (rv := .val d) (as' := []) (⟨r1, n1, d1⟩ : ResV K mg F1 H σ A1 v (.val d) b1) rfl (by simpa using t2)
        refine ⟨F2, A2, b1 ++ b2, ?_, S2, ?_, ?_, ?_, ?_, fun a z => j1 a (j2 a z), t1.trans t2⟩
        · have u1 := s1.frame a2
          have u2 := s2.frame b1
          have c1 : Step (a1 ++ a2 ++ A) H F (b1 ++ (a2 ++ A1)) H F1 := by
            refine (u1.more fun x z => ?_).less fun x z => ?_
            · simp only [List.mem_append] at z ⊢
              rcases z with z | z | z <;> simp [z]
            · simp only [List.mem_append] at z ⊢
              rcases z with z | z | z <;> simp [z]
          refine (c1.trans u2).less fun x z => ?_
          simpa [List.append_assoc] using z
        · simp only [ReL]
          exact ⟨v, r, b1, b2, rfl, rfl, w1.1, r2⟩
        · exact List.nodup_append.mpr ⟨n1, n2, fun a z b y q => dj a (i1 a z) (by rw [q]; exact i2 b y)⟩
        · intro a z
          rcases List.mem_append.mp z with z | z
          · exact w1.2.2 a z
          · exact d2 a z
        · intro a z
          rcases List.mem_append.mp z with z | z
          · exact List.mem_append_left _ (i1 a z)
          · exact List.mem_append_right _ (i2 a z)
/-- a new list of what is kept -/
theorem fin_lst {Q : VK} {ds : List D} {vs : List V} {as : List Addr} {p : Addr} (S : Sta K mg F H σ e A) (st : Step B0 H0 F0 (as ++ A) H F) (r : ReL K mg F H ds vs as) (nd : as.Nodup) (dj : ∀ a ∈ as, a ∉ A ∧ F a = none)
    (post : OkE K mg σ B0 H0 F0 Q (.val (.lst .own ds), e)) (hp : H p = none) : Q (.ref p) (upd H p (.lst vs)) := by
  have hf := S.fresh hp
  have lv := ReL.live ds vs as r
  have np : ∀ a ∈ as, a ≠ p := fun a z q => by obtain ⟨o, ho⟩ := lv a z; rw [q, hp] at ho; cases ho
  have nA : ∀ a ∈ A, a ≠ p := fun a z q => S.live z (by rw [q]; exact hp)
  have st1 := Step.new (B := as ++ A) (F := F) (o := .lst vs) hp
  refine post (.ref p) _ F A (p :: as) ((st.trans st1).less fun x z => by simpa using z) (S.past (fun a o q => ?_) (Le.refl F) (fun a z o q => ?_) S.no) ⟨?_, ?_, fun a z => ?_⟩
  · rw [upd_ne (ne_of_none (S.sub a o q) hp)]; exact S.sub a o q
  · rw [upd_ne (nA a z)]; exact q
  · simp only [Rep]
    exact ⟨p, vs, as, rfl, rfl, upd_same, ReL.mono (Le.refl F) ds vs as (fun a z o q => by rw [upd_ne (np a z)]; exact q) r⟩
  · exact List.nodup_cons.mpr ⟨fun z => np p z rfl, nd⟩
  · rcases List.mem_cons.mp z with q | q
    · rw [q]; exact ⟨fun z => nA p z rfl, hf⟩
    · exact dj a q
/-- a new tuple of what is kept: nothing in it is written again -/
theorem fin_tup {Q : VK} {ds : List D} {vs : List V} {as : List Addr} {p : Addr} (S : Sta K mg F H σ e A) (st : Step B0 H0 F0 (as ++ A) H F) (r : ReL K mg F H ds vs as) (nd : as.Nodup) (dj : ∀ a ∈ as, a ∉ A ∧ F a = none)
    (post : OkE K mg σ B0 H0 F0 Q (.val (.tup (frzL ds)), e)) (hp : H p = none) : Q (.ref p) (upd H p (.tup vs)) := by
  have fz : Step (as ++ A) H F A H (frzAt F H as) := Step.freeze S.sub (fun a z => List.mem_append_left _ z) fun a z => List.mem_append_right _ z
  have S' : Sta K mg (frzAt F H as) H σ e A := S.past (frzAt_sub S.sub) (frzAt_le S.sub) (fun _ _ _ q => q) fun a z => by
    rw [frzAt_out fun q => (dj a q).1 z]; exact S.no a z
  have r' := ReL.freeze (frzAt_le (as := as) S.sub) ds vs as (fun a z o q => by rw [frzAt_in z]; exact q) r
  exact (OkE.fin (T := []) (by simpa using st.trans fz) S' post).tupNew S'.sub r' hp
end

section
variable {M : Gb} {cl : Cl} {G : Cn} {k : Nat} {W : WX} {X : Cx}
theorem sE_tup {es : List Expr} {j : Nat} {pos : Pos} {f : En → R (List RV × En)} (h : PA X es (tA X.K X.mg W f)) :
    PE X (.Tuple es j pos) (tE X.K X.mg W fun e => (f e).bind fun (vs, e1) => (takes e1 vs).bind fun (ds, e2) => if lenOk ds.length then .ok (.val (.tup (frzL ds)), e2) else .stuck) := PE.imp (pe_tup h) fun σ H Q ⟨e, F, A, S, post⟩ => by
  refine tA_of (T := []) S nilA post fun rvs e1 h1 vs H1 F1 A1 as1 st1 st01 S1 res1 post => ?_
  cases ht : takes e1 rvs with
  | err _ _ _ => exact (takes_noerr ht).elim
  | stuck => simp only [ht, R.bind] at post; exact post.elim
  | ok y =>
    obtain ⟨ds, e2⟩ := y
    simp only [ht, R.bind] at post
    obtain ⟨F2, A2, as2, s2, S2, r2, n2, d2, _, _, _⟩ := takes_ok S1 res1 ht
    by_cases hl : lenOk ds.length = true
    · rw [if_pos hl] at post
      exact ⟨by rw [← r2.length]; exact of_decide_eq_true hl, fun p hp => fin_tup S2 (by simpa using st01.trans s2) r2 n2 d2 post hp⟩
    · rw [if_neg hl] at post; exact post.elim
theorem sE_lst {es : List Expr} {pos : Pos} {f : En → R (List RV × En)} (h : PA X es (tA X.K X.mg W f)) :
    PE X (.List es pos) (tE X.K X.mg W fun e => (f e).bind fun (vs, e1) => (takes e1 vs).bind fun (ds, e2) => if lenOk ds.length then .ok (.val (.lst .own ds), e2) else .stuck) := PE.imp (pe_lst h) fun σ H Q ⟨e, F, A, S, post⟩ => by
  refine tA_of (T := []) S nilA post fun rvs e1 h1 vs H1 F1 A1 as1 st1 st01 S1 res1 post => ?_
  cases ht : takes e1 rvs with
  | err _ _ _ => exact (takes_noerr ht).elim
  | stuck => simp only [ht, R.bind] at post; exact post.elim
  | ok y =>
    obtain ⟨ds, e2⟩ := y
    simp only [ht, R.bind] at post
    obtain ⟨F2, A2, as2, s2, S2, r2, n2, d2, _, _, _⟩ := takes_ok S1 res1 ht
    by_cases hl : lenOk ds.length = true
    · rw [if_pos hl] at post
      exact ⟨by rw [← r2.length]; exact of_decide_eq_true hl, fun p hp => fin_lst S2 (by simpa using st01.trans s2) r2 n2 d2 post hp⟩
    · rw [if_neg hl] at post; exact post.elim
/-- an expression that lets an exception out -/
theorem sE_err_run {x a : Expr} {pins : List (Addr × Obj)} {s : Shared} {σ : St} {H F : Hp} {e : En} {A : List Addr} {f : En → R (RV × En)} {β : Type} {g : RV × En → R β} {φ : β → Prop} {c : Str} {fs : List (Str × D)} {e' : En}
    (h : PE X a (tE X.K X.mg W f)) (I : Inv X pins σ H s) (S : Sta X.K X.mg F H σ e A) (hf : f e = .err c fs e') (post : PostG W σ A H F ((f e).bind g) φ) : False := by
  rw [hf] at post
  exact post.no
/-- arguments -/
theorem sA_nil : PA X [] (tA X.K X.mg W fun e => .ok ([], e)) := ⟨fun pos pins s σ H Q I ⟨e, F, A, S, post⟩ => pa_nil.run pos pins s σ H Q I (post [] H F A [] (by simpa using nilA) S ⟨rfl, rfl⟩)⟩
theorem sA_cons {a : Expr} {r : List Expr} {fa : En → R (RV × En)} {fr : En → R (List RV × En)} (hs : starEach (a :: r) X.env = (false, eval a X.env) :: starEach r X.env) (ha : PE X a (tE X.K X.mg W fa)) (hr : PA X r (tA X.K X.mg W fr)) (ga : ∀ e v e', fa e = .ok (v, e') → flat v = true) :
    PA X (a :: r) (tA X.K X.mg W fun e => (fa e).bind fun (v, e1) => (fr e1).bind fun (vs, e2) => .ok (v :: vs, e2)) := ⟨fun pos pins s σ H Q I ⟨e, F, A, S, post⟩ => by
  refine (pa_cons ha hr hs).run pos pins s σ H Q I ?_
  refine tE_of (T := []) S nilA post fun rv e1 h1 v H1 F1 A1 as1 st1 st01 S1 res1 post => ?_
  refine tA_of (T := as1) S1 (by simpa using st01) post fun rvs e2 h2 vs H2 F2 A2 as2 st2 st02 S2 res2 post => ?_
  obtain ⟨res1', dj⟩ := res1.past (ga _ _ _ h1) st2
  refine post (v :: vs) H2 F2 A2 (as1 ++ as2) (by simpa [List.append_assoc] using st02) S2 ?_
  simp only [ResVs]
  exact ⟨v, vs, as1, as2, rfl, rfl, ga _ _ _ h1, res1', res2, dj⟩⟩
end
end Ev

set_option Elab.async false
set_option linter.all false
set_option maxRecDepth 100000
set_option maxHeartbeats 1000000
/-! Ev11: items, slices, chains, tests. -/
namespace Ev
open PySem L2
open PyProof.Rows (isTrue_and isTrue_or isTrue_not isTrue_plain isTrue_and_nil isTrue_or_nil)

section
variable {M : Gb} {cl : Cl} {G : Cn} {k : Nat} {W : WX} {X : Cx}
/-- a plain int: nothing happens -/
def tInt (K : PySem.W.Frag) (mg : Str → Option Value) (f : En → Option Int) : TE := fun σ H Q => ∃ e F A i, Sta K mg F H σ e A ∧ f e = some i ∧ Q (.int i) H
theorem sI_ok (g : Good M cl G k W X) : ∀ (n : Nat) (x : Expr), PE X x (tInt X.K X.mg (intE G n x))
  | 0, x => ⟨fun pins s σ H Q I ⟨e, F, A, i, S, h, q⟩ => by unfold intE at h; cases h⟩
  | n + 1, x => by
    refine ⟨fun pins s σ H Q I ⟨e, F, A, i, S, h, q⟩ => ?_⟩
    unfold intE at h
    split at h
    · cases h
      exact pe_int.run pins s σ H Q I q
    · rename_i y p
      split at h
      · rename_i j hs
        split at h
        · rename_i hv
          split at h
          · rename_i i' hd
            cases h
            obtain ⟨h1, h2⟩ := g.dbg hs
            obtain ⟨v, pre, a1, po, q1, q2, q3, _⟩ := EL.at S.el hd
            exact (pe_var (g.at_ hs) (g.vis hv) h1 h2).run pins s σ H Q I ⟨v, q1, by rw [rep_int q3]; exact q⟩
          · cases h
        · cases h
      · cases h
    · rename_i a b p _x
      split at h
      · rename_i i1 i2 h1 h2
        cases h
        exact (pe_op op_add (sI_ok g n a) (sI_ok g n b)).run pins s σ H Q I ⟨e, F, A, i1, S, h1, e, F, A, i2, S, h2, i1, i2, rfl, rfl, q⟩
      · cases h
    · rename_i a b p _x
      split at h
      · rename_i i1 i2 h1 h2
        cases h
        exact (pe_op op_sub (sI_ok g n a) (sI_ok g n b)).run pins s σ H Q I ⟨e, F, A, i1, S, h1, e, F, A, i2, S, h2, i1, i2, rfl, rfl, q⟩
      · cases h
    · rename_i a p _x
      split at h
      · rename_i i1 h1
        cases h
        exact (pe_un un_neg (sI_ok g n a)).run pins s σ H Q I ⟨e, F, A, i1, S, h1, i1, rfl, q⟩
      · cases h
    · cases h
end

section
variable {K : PySem.W.Frag} {mg : Str → Option Value} {W : WX} {σ : St} {H F H0 F0 : Hp} {e : En} {A B0 T : List Addr} {Q : VK}
theorem path_more {H : Hp} {a : Addr} {vs : List V} {w : V} {j : Nat} (ha : H a = some (.lst vs)) (hw : vs[j]? = some w) : ∀ {p : List Nat} {v0 : V}, PathV H v0 p (.ref a) → PathV H v0 (p ++ [j]) w
  | [], v0, h => ⟨a, vs, w, h.symm, ha, hw, rfl⟩
  | i :: p, v0, h => by
    obtain ⟨b, us, u, e1, e2, e3, h'⟩ := h
    exact ⟨b, us, u, e1, e2, e3, path_more ha hw h'⟩
theorem item_at {xs : List D} {i : Int} {j : Nat} {ds : List V} (h : item xs i = some j) (hl : xs.length = ds.length) {w : V} (hw : ds[j]? = some w) : atI ds i = some w := by
  unfold item at h
  unfold atI
  rw [← hl]
  split at h
  · rename_i q
    cases h
    rw [q]
    exact hw
  · cases h
/-- the item of what va holds -/
theorem item_fin {va : RV} {v : V} {as : List Addr} {i : Int} {x : V} (S : Sta K mg F H σ e A) (st : Step B0 H0 F0 (T ++ (as ++ A)) H F) (res : ResV K mg F H σ A v va as)
    (post : PostG W σ B0 H0 F0 (itemE va (content e va) i e) (OkE K mg σ B0 H0 F0 Q)) (hx : x = .int i) : rIx K v x H Q := by
  have st' : Step B0 H0 F0 A H F := st.less fun z hz => List.mem_append_right _ (List.mem_append_right _ hz)
  unfold itemE at post
  split at post
  · rename_i xs hc
    obtain ⟨a1, p1, _⟩ := ResV.content S res hc
    obtain ⟨p, vs, ev, hs, hr⟩ := rep_tup p1
    split at post
    · rename_i j hj
      split at post
      · rename_i d hd
        obtain ⟨w, pre, b1, po, q1, q2, q3, _⟩ := ReL.at hr hd
        have hb : b1 = [] := by
          have := congrArg List.length q2
          simp only [List.length_nil, List.length_append] at this
          exact List.length_eq_zero_iff.mp (by omega)
        subst hb
        exact .inr (.inl ⟨p, vs, i, w, ev, hx, S.sub.seqT hs, item_at hj hr.length q1, OkE.val0 st' S q3 post⟩)
      · exact post.elim
    · exact post.elim
  · rename_i m xs hc
    obtain ⟨a1, p1, _⟩ := ResV.content S res hc
    obtain ⟨p, vs, bs, ev, hs, hr, ho⟩ := rep_lst S.sub p1
    split at post
    · rename_i j hj
      split at post
      · rename_i d hd
        obtain ⟨w, pre, b1, po, q1, q2, q3, _⟩ := ReL.at hr hd
        split at post
        · rename_i hown
          split at post
          · rename_i s0 p0
            obtain ⟨_, v0, h1, h2⟩ := res
            have hm : m ≠ .ext := by
              intro z; subst z
              simp only [Rep] at p1
              obtain ⟨_, _, _, _, _, hr0⟩ := p1
              obtain ⟨_, _, b2, _, _, z2, z3, _⟩ := ReL.at hr0 hd
              have hb : b2 = [] := by
                have := congrArg List.length z2
                simp only [List.length_nil, List.length_append] at this
                exact List.length_eq_zero_iff.mp (by omega)
              subst hb
              cases d with
              | lst m2 _ => cases m2 <;> simp [owned, Rep] at hown z3
              | dic m2 _ _ => cases m2 <;> simp [owned, Rep] at hown z3
              | _ => simp [owned] at hown
            subst ev
            exact .inl ⟨p, vs, i, w, rfl, hx, hs, item_at hj hr.length q1, OkE.han0 (i := s0) (p := p0 ++ [j]) st' S ⟨v0, h1, path_more (ho hm) q1 h2⟩ post⟩
          · exact post.elim
        · rename_i hown
          have hb := Rep.bare (by simpa using hown) q3
          subst hb
          exact .inl ⟨p, vs, i, w, ev, hx, hs, item_at hj hr.length q1, OkE.val0 st' S q3 post⟩
      · exact post.elim
    · exact post.elim
  · exact post.elim
end

section
variable {M : Gb} {cl : Cl} {G : Cn} {k : Nat} {W : WX} {X : Cx}
theorem plainIx_ok {b : Expr} (h : plainIx b = true) : PlainIx b := by
  intro o i
  cases b <;> first | rfl | (simp [plainIx] at h)
/-- a[b] -/
theorem sE_item {a b : Expr} {pos : Pos} {fa fb : En → R (RV × En)} (g : Good M cl G k W X) (hp : plainIx b = true) (ha : PE X a (tE X.K X.mg W fa)) (hb : PE X b (tE X.K X.mg W fb)) :
    PE X (.Subscript a b pos) (tE X.K X.mg W fun e => (fa e).bind fun (va, e1) => match intE G 8 b e1 with
      | some i => itemE va (content e1 va) i e1
      | none => (sole e1 va).bind fun (va, e1) => (fb e1).bind fun (vb, e2) => match content e2 vb with
        | some (.int i) => itemE va (content e2 va) i e2
        | _ => .stuck) := by
  refine ⟨fun pins s σ H Q I ⟨e, F, A, S, post⟩ => ?_⟩
  simp only at post
  cases hfa : fa e with
  | err c fs e' => exact (sE_err_run (x := .Subscript a b pos) ha I S hfa post).elim
  | stuck => rw [hfa] at post; exact post.elim
  | ok y =>
    obtain ⟨va, e1⟩ := y
    cases hi : intE G 8 b e1 with
    | some i =>
      -- the place is plain: the road stays as it is
      refine (pe_ix ix_seq ha (sI_ok g 8 b) (plainIx_ok hp)).run pins s σ H Q I ?_
      refine tE_of (T := []) S nilA post fun rv e' h1 v H1 F1 A1 as1 st1 st01 S1 res1 post => ?_
      rw [hfa] at h1
      cases h1
      simp only [hi] at post
      exact ⟨e1, F1, A1, i, S1, hi, item_fin (T := []) S1 (by simpa using st01) res1 post rfl⟩
    | none =>
      refine (pe_ix ix_seq (sE_sole ha) hb (plainIx_ok hp)).run pins s σ H Q I ?_
      have post2 : PostG W σ A H F (((fa e).bind fun (v, e1) => sole e1 v).bind fun (va, e1) => (fb e1).bind fun (vb, e2) => match content e2 vb with
        | some (.int i) => itemE va (content e2 va) i e2
        | _ => .stuck) (OkE X.K X.mg σ A H F Q) := by
        rw [hfa] at post ⊢
        simp only [R.bind, hi] at post ⊢
        exact post
      refine tE_of (f := fun e => (fa e).bind fun (v, e1) => sole e1 v) (T := []) S nilA post2 fun rv e' h1 v H1 F1 A1 as1 st1 st01 S1 res1 post => ?_
      have fl : flat rv = true := by
        simp only at h1
        rw [hfa] at h1
        exact sole_flat h1
      refine tE_of (T := as1) S1 (by simpa using st01) post fun vb e2 h2 w H2 F2 A2 as2 st2 st02 S2 res2 post => ?_
      obtain ⟨res1', dj⟩ := res1.past fl st2
      cases cb : content e2 vb with
      | none => simp only [cb] at post; exact post.elim
      | some z =>
        obtain ⟨a2, p2, _⟩ := ResV.content S2 res2 cb
        cases z <;> simp only [cb] at post <;> first | exact post.elim | skip
        rename_i i
        refine item_fin (T := as2) S2 (st02.less fun x hx => ?_) res1' post (rep_int p2)
        simp only [List.mem_append] at hx ⊢
        rcases hx with hx | hx | hx <;> simp [hx]
end
end Ev

set_option Elab.async false
set_option linter.all false
set_option maxRecDepth 100000
set_option maxHeartbeats 1000000
/-! Ev12: slices, chains, tests. -/
namespace Ev
open PySem L2
open PyProof.Rows (isTrue_and isTrue_or isTrue_not isTrue_plain isTrue_and_nil isTrue_or_nil)

section
variable {K : PySem.W.Frag} {mg : Str → Option Value} {F H : Hp}
theorem rel_cut {ds : List D} {vs : List V} (lo hi : Option Int) (h : ReL K mg F H ds vs []) : ReL K mg F H (cut ds lo hi) (cutV vs lo hi) [] := by
  unfold cut cutV
  rw [h.length]
  exact rel_take _ (rel_drop _ h)
theorem cut_whole {ds : List D} {lo hi : Option Int} (h : HT.sIx ds.length 0 lo = 0 ∧ HT.sIx ds.length ds.length hi = ds.length) : cut ds lo hi = ds := by
  unfold cut
  rw [h.1, h.2]
  simp
end
section
variable {M : Gb} {cl : Cl} {G : Cn} {k : Nat} {W : WX} {X : Cx}
/-- a[lo:hi] -/
theorem sE_slice {a : Expr} {lo hi : Option Expr} {p2 pos : Pos} {fa : En → R (RV × En)} {fl fh : En → R (Option Int × En)} (ha : PE X a (tE X.K X.mg W fa)) (ga : ∀ e v e', fa e = .ok (v, e') → flat v = true) (hl : PO X lo (tO X.K X.mg W fl)) (hh : PO X hi (tO X.K X.mg W fh)) :
    PE X (.Subscript a (.Slice lo hi none p2) pos) (tE X.K X.mg W fun e => (fa e).bind fun (va, e1) => (fl e1).bind fun (l, e2) => (fh e2).bind fun (h, e3) => match content e3 va with
      | some (.tup xs) => .ok (.val (.tup (cut xs l h)), e3)
      | some (.lst m xs) => if plainL xs then .ok (.val (.lst .own (cut xs l h)), e3) else .stuck
      | _ => .stuck) := PE.imp (pe_slice (sl_tupA.or sl_list) ha hl hh) fun σ H Q ⟨e, F, A, S, post⟩ => by
  refine tE_of (T := []) S nilA post fun va e1 h1 v H1 F1 A1 as1 st1 st01 S1 res1 post => ?_
  refine tO_of (T := as1) S1 (by simpa using st01) post fun l e2 h2 H2 F2 A2 st2 st02 S2 post => ?_
  refine tO_of (T := as1) S2 (by simpa using st02) post fun h e3 h3 H3 F3 A3 st3 st03 S3 post => ?_
  obtain ⟨res2, _⟩ := res1.past (as' := []) (ga _ _ _ h1) (by simpa using st2)
  obtain ⟨res3, _⟩ := res2.past (as' := []) (ga _ _ _ h1) (by simpa using st3)
  cases ca : content e3 va with
  | none => simp only [ca] at post; exact post.elim
  | some x =>
    obtain ⟨a1, p1, _⟩ := ResV.content S3 res3 ca
    cases x <;> simp only [ca] at post <;> first | exact post.elim | skip
    · rename_i xs
      obtain ⟨p, vs, ev, hs, hr⟩ := rep_tup p1
      have gv := OkE.fin (T := as1) st03 S3 post
      refine .inl ⟨p, vs, ev, S3.sub.seqT hs, fun z => ?_, fun _ q hq => gv.tupNew S3.sub (rel_cut l h hr) hq⟩
      refine gv.same S3.sub ?_
      rw [cut_whole (by rw [hr.length]; exact z)]
      simp only [Rep]
      exact ⟨trivial, p, vs, rfl, hs, hr⟩
    · rename_i m xs
      by_cases hp : plainL xs = true
      · rw [if_pos hp] at post
        obtain ⟨p, vs, bs, ev, hs, hr, _⟩ := rep_lst S3.sub p1
        exact .inr ⟨p, vs, ev, hs, fun q hq => (OkE.fin (T := as1) st03 S3 post).lstNew S3.sub (rel_cut l h (rel_plain hp hr)) hq⟩
      · rw [if_neg hp] at post; exact post.elim
theorem sP_none : PO X none (tO X.K X.mg W fun e => .ok (none, e)) := ⟨fun pins s σ H Q I ⟨e, F, A, S, post⟩ => po_none.run pins s σ H Q I (post H F A stid S)⟩
theorem sP_some {a : Expr} {fa : En → R (RV × En)} (ha : PE X a (tE X.K X.mg W fa)) :
    PO X (some a) (tO X.K X.mg W fun e => (fa e).bind fun (v, e1) => match content e1 v with | some (.int i) => .ok (some i, e1) | _ => .stuck) := ⟨fun pins s σ H Q I ⟨e, F, A, S, post⟩ => by
  refine (po_some ha).run pins s σ H Q I ?_
  refine tE_of (T := []) S nilA post fun va e1 h1 v H1 F1 A1 as1 st1 st01 S1 res1 post => ?_
  cases ca : content e1 va with
  | none => simp only [ca] at post; exact post.elim
  | some x =>
    obtain ⟨a1, p1, _⟩ := ResV.content S1 res1 ca
    cases x <;> simp only [ca] at post <;> first | exact post.elim | skip
    rename_i i
    have pp : OkP X.K X.mg σ A H F Q (some i, e1) := post
    exact ⟨i, rep_int p1, pp H1 F1 A1 ((by simpa using st01 : Step A H F (as1 ++ A1) H1 F1).less fun _ z => List.mem_append_right _ z) S1⟩⟩

/-- a comparison's rule by data -/
def rCmp (K : PySem.W.Frag) (mg : Str → Option Value) (op : CmpOp) : R2 := fun x y H Q => ∃ F a b as bs c, Le F H ∧ Rep K mg F H a x as ∧ Rep K mg F H b y bs ∧ cmpop op a b = some c ∧ Q (.bl c) H
theorem op_cmpD {op : CmpOp} (hr : Room k X.A) : OpR X (compareOp op) (rCmp X.K X.mg op) := by
  intro pins s σ H x y v u Q I rx ry ⟨F, a, b, as, bs, c, sub, ha, hb, h, q⟩
  exact cmpop_ok hr I rx ry sub ha hb h q
abbrev fChain (op op2 : CmpOp) (fa fb fc : En → R (RV × En)) : En → R (RV × En) := fun e => (fa e).bind fun (va, e1) => (fb e1).bind fun (vb, e2) => (match content e2 va, content e2 vb with
      | some x, some y => (ofO (cmpop op x y)).bind fun k => if k then (fc e2).bind fun (vc, e3) => (match content e3 vb, content e3 vc with
        | some y', some z => (ofO (cmpop op2 y' z)).bind fun k2 => .ok (.val (.bl k2), e3)
        | _, _ => .stuck) else .ok (.val (.bl false), e2)
      | _, _ => .stuck)
/-- a op b op2 c -/
theorem chain_rd {op op2 : CmpOp} {fa fb fc : En → R (RV × En)} {K : PySem.W.Frag} {mg : Str → Option Value} {σ : St} {H : Hp} {Q : VK}
    (ga : ∀ e v e', fa e = .ok (v, e') → flat v = true) (gb : ∀ e v e', fb e = .ok (v, e') → flat v = true) : tE K mg W (fChain op op2 fa fb fc) σ H Q → tChain (rCmp K mg op) (rCmp K mg op2) (tE K mg W fa) (tE K mg W fb) (tE K mg W fc) σ H Q := fun ⟨e, F, A, S, post⟩ => by
  refine tE_of (T := []) S nilA post fun va e1 h1 v H1 F1 A1 as1 st1 st01 S1 res1 post => ?_
  refine tE_of (T := as1) S1 (by simpa using st01) post fun vb e2 h2 w H2 F2 A2 as2 st2 st02 S2 res2 post => ?_
  obtain ⟨res1', dj⟩ := res1.past (ga _ _ _ h1) st2
  cases ca : content e2 va with
  | none => simp only [ca] at post; exact post.elim
  | some x =>
    cases cb : content e2 vb with
    | none => simp only [ca, cb] at post; exact post.elim
    | some y =>
      simp only [ca, cb] at post
      obtain ⟨a1, p1, _⟩ := ResV.content S2 res1' ca
      obtain ⟨a2, p2, _⟩ := ResV.content S2 res2 cb
      cases hd : cmpop op x y with
      | none => rw [hd] at post; exact post.elim
      | some kk =>
        rw [hd] at post
        simp only [ofO, R.bind] at post
        refine ⟨F2, x, y, a1, a2, kk, S2.sub, p1, p2, hd, kk, rfl, ?_⟩
        cases kk with
        | false =>
          rw [if_neg Bool.false_ne_true] at post ⊢
          exact (OkE.fin (T := as1 ++ as2) (by simpa [List.append_assoc] using st02) S2 post).bl S2.sub
        | true =>
          rw [if_pos rfl] at post ⊢
          refine tE_of (T := as1 ++ as2) S2 (by simpa [List.append_assoc] using st02) post fun vc e3 h3 z H3 F3 A3 as3 st3 st03 S3 res3 post => ?_
          obtain ⟨res2', dj2⟩ := res2.past (gb _ _ _ h2) st3
          cases cb' : content e3 vb with
          | none => simp only [cb'] at post; exact post.elim
          | some y' =>
            cases cc : content e3 vc with
            | none => simp only [cb', cc] at post; exact post.elim
            | some zz =>
              simp only [cb', cc] at post
              obtain ⟨b1, r1, _⟩ := ResV.content S3 res2' cb'
              obtain ⟨b2, r2, _⟩ := ResV.content S3 res3 cc
              cases hd2 : cmpop op2 y' zz with
              | none => rw [hd2] at post; exact post.elim
              | some k2 =>
                rw [hd2] at post
                exact ⟨F3, y', zz, b1, b2, k2, S3.sub, r1, r2, hd2, (OkE.fin (T := as1 ++ as2 ++ as3) (by simpa [List.append_assoc] using st03) S3 post).bl S3.sub⟩
theorem chain_mark {op op2 : CmpOp} (b c : Expr) (hp : (plainOp op && plainOp op2) = true) : lastMarks [op, op2] [b, c] = false := by
  rw [Bool.and_eq_true] at hp
  have : lastMarks [op, op2] [b, c] = behindInMarks op2 c := by first | rfl | (unfold lastMarks; rfl)
  rw [this]
  exact plain_nomark c hp.2
theorem sE_chain {op op2 : CmpOp} {a b c : Expr} {pos : Pos} {fa fb fc : En → R (RV × En)} (g : Good M cl G k W X) (hp : (plainOp op && plainOp op2) = true) (ha : PE X a (tE X.K X.mg W fa)) (hb : PE X b (tE X.K X.mg W fb)) (hc : PE X c (tE X.K X.mg W fc))
    (ga : ∀ e v e', fa e = .ok (v, e') → flat v = true) (gb : ∀ e v e', fb e = .ok (v, e') → flat v = true) :
    PE X (.Compare a [op, op2] [b, c] pos) (tE X.K X.mg W (fChain op op2 fa fb fc)) :=
  PE.imp (pe_chain (op_cmpD g.room) (op_cmpD g.room) ha hb hc (chain_mark b c hp)) fun σ H Q => chain_rd ga gb
theorem cmp_rd {op : CmpOp} {fa fb : En → R (RV × En)} {K : PySem.W.Frag} {mg : Str → Option Value} {σ : St} {H : Hp} {Q : VK}
    (ga : ∀ e v e', fa e = .ok (v, e') → flat v = true) : tE K mg W (fCmp op fa fb) σ H Q → tOp (rCmp K mg op) (tE K mg W fa) (tE K mg W fb) σ H Q := fun ⟨e, F, A, S, post⟩ => by
  refine tE_of (T := []) S nilA post fun va e1 h1 v H1 F1 A1 as1 st1 st01 S1 res1 post => ?_
  refine tE_of (T := as1) S1 (by simpa using st01) post fun vb e2 h2 w H2 F2 A2 as2 st2 st02 S2 res2 post => ?_
  obtain ⟨res1', dj⟩ := res1.past (ga _ _ _ h1) st2
  cases ca : content e2 va with
  | none => simp only [ca] at post; exact post.elim
  | some x =>
    cases cb : content e2 vb with
    | none => simp only [ca, cb] at post; exact post.elim
    | some y =>
      simp only [ca, cb] at post
      obtain ⟨a1, p1, _⟩ := ResV.content S2 res1' ca
      obtain ⟨a2, p2, _⟩ := ResV.content S2 res2 cb
      cases hd : cmpop op x y with
      | none => rw [hd] at post; exact post.elim
      | some kk =>
        rw [hd] at post
        exact ⟨F2, x, y, a1, a2, kk, S2.sub, p1, p2, hd, (OkE.fin (T := as1 ++ as2) (by simpa [List.append_assoc] using st02) S2 post).bl S2.sub⟩

/-! ### tests -/
abbrev fTru (f : En → R (RV × En)) : En → R (Bool × En) := fun e => (f e).bind fun (v, e1) => match content e1 v with | some d => (ofO (truth d)).bind fun b => .ok (b, e1) | none => .stuck
/-- the truth of an expression's value, where the test is just that -/
theorem sT_tru {a : Expr} {fa : En → R (RV × En)} (ha : PE X a (tE X.K X.mg W fa)) (he : ∀ whole, isTrue a X.env whole = (do let v ← whole; standAt a.pos; holding [v] (truthy v))) : PT X a (tT X.K X.mg W (fTru fa)) := by
  refine ⟨fun pins s σ H Q I ⟨e, F, A, S, post⟩ => isTrue_plain ?_ (he _)⟩
  refine seqE (T := []) ha I S nilA post fun va e1 h1 v u s1 H1 F1 A1 as1 I1 r1 st1 st01 S1 res1 post => ?_
  cases ca : content e1 va with
  | none => simp only [ca] at post; exact post.elim
  | some x =>
    simp only [ca] at post
    obtain ⟨a1, p1, _⟩ := ResV.content S1 res1 ca
    cases ht : truth x with
    | none => rw [ht] at post; exact post.elim
    | some b =>
      rw [ht] at post
      have pp : OkT X.K X.mg σ A H F Q (b, e1) := post
      exact truth_ok I1 r1 S1.sub p1 ht (pp H1 F1 A1 ((by simpa using st01 : Step A H F (as1 ++ A1) H1 F1).less fun _ z => List.mem_append_right _ z) S1)
theorem tru_rd {f : En → R (RV × En)} {K : PySem.W.Frag} {mg : Str → Option Value} {σ : St} {H : Hp} {Q : Bool → Hp → Prop} (hf : ∀ e rv e', f e = .ok (rv, e') → ∃ k, rv = .val (.bl k)) :
    tT K mg W (fTru f) σ H Q → tE K mg W f σ H fun x H' => ∃ k, x = .bl k ∧ Q k H' := fun ⟨e, F, A, S, post⟩ => by
  refine ⟨e, F, A, S, ?_⟩
  cases h : f e with
  | stuck => simp only [fTru, h] at post; exact post
  | err c fs e1 => simp only [fTru, h] at post; exact ⟨post.no⟩
  | ok y =>
    obtain ⟨rv, e1⟩ := y
    obtain ⟨kk, er⟩ := hf _ _ _ h
    subst er
    simp only [fTru, h] at post
    have post : OkT K mg σ A H F Q (kk, e1) := post
    intro v H' F' A' as st S' res
    have r1 := res.1
    simp only [Rep] at r1
    obtain ⟨ev, ea⟩ := r1
    subst ev; subst ea
    exact ⟨kk, rfl, post H' F' A' (by simpa using st) S'⟩
theorem fCmp_bl {op : CmpOp} {fa fb : En → R (RV × En)} (e : En) (rv : RV) (e' : En) (h : fCmp op fa fb e = .ok (rv, e')) : ∃ k, rv = .val (.bl k) := by
  unfold fCmp at h
  cases h1 : fa e with
  | stuck => rw [h1] at h; cases h
  | err c fs e1 => rw [h1] at h; cases h
  | ok y =>
    rw [h1] at h
    simp only [R.bind] at h
    cases h2 : fb y.2 with
    | stuck => rw [h2] at h; cases h
    | err c fs e1 => rw [h2] at h; cases h
    | ok z =>
      rw [h2] at h
      simp only at h
      split at h
      · rename_i x w _ _
        cases h3 : cmpop op x w with
        | none => rw [h3] at h; cases h
        | some c => rw [h3] at h; cases h; exact ⟨_, rfl⟩
      · cases h
theorem fChain_bl {op op2 : CmpOp} {fa fb fc : En → R (RV × En)} (e : En) (rv : RV) (e' : En) (h : fChain op op2 fa fb fc e = .ok (rv, e')) : ∃ k, rv = .val (.bl k) := by
  unfold fChain at h
  cases h1 : fa e with
  | stuck => rw [h1] at h; cases h
  | err c fs e1 => rw [h1] at h; cases h
  | ok y =>
    rw [h1] at h
    simp only [R.bind] at h
    cases h2 : fb y.2 with
    | stuck => rw [h2] at h; cases h
    | err c fs e1 => rw [h2] at h; cases h
    | ok z =>
      rw [h2] at h
      simp only at h
      split at h
      · rename_i x w _ _
        cases h3 : cmpop op x w with
        | none => rw [h3] at h; cases h
        | some c =>
          rw [h3] at h
          simp only [ofO] at h
          split at h
          · cases h4 : fc z.2 with
            | stuck => rw [h4] at h; cases h
            | err c fs e1 => rw [h4] at h; cases h
            | ok q =>
              rw [h4] at h
              simp only at h
              split at h
              · rename_i x2 w2 _ _
                cases h5 : cmpop op2 x2 w2 with
                | none => rw [h5] at h; cases h
                | some c => rw [h5] at h; cases h; exact ⟨_, rfl⟩
              · cases h
          · cases h; exact ⟨_, rfl⟩
      · cases h
theorem sT_cmp {op : CmpOp} {a b : Expr} {pos : Pos} {fa fb : En → R (RV × En)} (g : Good M cl G k W X) (hp : plainOp op = true) (ha : PE X a (tE X.K X.mg W fa)) (hb : PE X b (tE X.K X.mg W fb)) (ga : ∀ e v e', fa e = .ok (v, e') → flat v = true) :
    PT X (.Compare a [op] [b] pos) (tT X.K X.mg W (fTru (fCmp op fa fb))) :=
  ⟨fun pins s σ H Q I h => (pt_cmpR (op_cmpD g.room) ha hb (plain_nomark b hp)).run pins s σ H Q I (cmp_rd ga (tru_rd fCmp_bl h))⟩
theorem sT_chain {op op2 : CmpOp} {a b c : Expr} {pos : Pos} {fa fb fc : En → R (RV × En)} (g : Good M cl G k W X) (hp : (plainOp op && plainOp op2) = true) (ha : PE X a (tE X.K X.mg W fa)) (hb : PE X b (tE X.K X.mg W fb)) (hc : PE X c (tE X.K X.mg W fc))
    (ga : ∀ e v e', fa e = .ok (v, e') → flat v = true) (gb : ∀ e v e', fb e = .ok (v, e') → flat v = true) :
    PT X (.Compare a [op, op2] [b, c] pos) (tT X.K X.mg W (fTru (fChain op op2 fa fb fc))) :=
  ⟨fun pins s σ H Q I h => (pt_chain (op_cmpD g.room) (op_cmpD g.room) ha hb hc (chain_mark b c hp)).run pins s σ H Q I (chain_rd ga gb (tru_rd fChain_bl h))⟩
theorem sT_not {a : Expr} {pos : Pos} {fa : En → R (Bool × En)} (ha : PT X a (tT X.K X.mg W fa)) : PT X (.UnaryOp .Not a pos) (tT X.K X.mg W fun e => (fa e).bind fun (b, e1) => .ok (!b, e1)) := by
  refine ⟨fun pins s σ H Q I ⟨e, F, A, S, post⟩ => isTrue_not ?_⟩
  refine seqT (T := []) ha I S nilA post fun b e1 h1 s1 H1 F1 A1 I1 st1 st01 S1 post => ?_
  have pp : OkT X.K X.mg σ A H F Q (!b, e1) := post
  exact ⟨H1, I1, pp H1 F1 A1 (by simpa using st01) S1⟩
theorem tT_past {f : En → R (Bool × En)} {σ : St} {H F H1 F1 : Hp} {A A1 : List Addr} {e1 : En} {Q : Bool → Hp → Prop} (S1 : Sta X.K X.mg F1 H1 σ e1 A1) (st : Step A H F A1 H1 F1) (post : PostG W σ A H F (f e1) (OkT X.K X.mg σ A H F Q)) : tT X.K X.mg W f σ H1 Q :=
  ⟨e1, F1, A1, S1, post.past st fun _ hb => hb.past st⟩
theorem tE_past {f : En → R (RV × En)} {σ : St} {H F H1 F1 : Hp} {A A1 : List Addr} {e1 : En} {Q : VK} (S1 : Sta X.K X.mg F1 H1 σ e1 A1) (st : Step A H F A1 H1 F1) (post : PostG W σ A H F (f e1) (OkE X.K X.mg σ A H F Q)) : tE X.K X.mg W f σ H1 Q :=
  ⟨e1, F1, A1, S1, post.past st fun _ hb => hb.past st⟩
theorem sT_if {c a b : Expr} {pos : Pos} {fc fa fb : En → R (Bool × En)} (hc : PT X c (tT X.K X.mg W fc)) (ha : PT X a (tT X.K X.mg W fa)) (hb : PT X b (tT X.K X.mg W fb)) :
    PT X (.IfExp c a b pos) (tT X.K X.mg W fun e => (fc e).bind fun (c, e1) => if c then fa e1 else fb e1) := by
  refine ⟨fun pins s σ H Q I ⟨e, F, A, S, post⟩ => ?_⟩
  have arm : isTrue (.IfExp c a b pos) X.env (eval (.IfExp c a b pos) X.env) = (do if ← isTrue c X.env (eval c X.env) then isTrue a X.env (eval a X.env) else isTrue b X.env (eval b X.env)) := rfl
  rw [arm]
  refine wpAny_bind ?_
  refine seqT (T := []) hc I S nilA post fun c e1 h1 s1 H1 F1 A1 I1 st1 st01 S1 post => ?_
  have st01 : Step A H F A1 H1 F1 := by simpa using st01
  cases c with
  | true => exact ha.run pins s1 σ H1 Q I1 (tT_past S1 st01 post)
  | false => exact hb.run pins s1 σ H1 Q I1 (tT_past S1 st01 post)
theorem sTs_one {op : BoolOp} {a : Expr} {pos : Pos} {fa : En → R (Bool × En)} (ha : PT X a (tT X.K X.mg W fa)) : PW X (.BoolOp op [a] pos) (tT X.K X.mg W fa) := by
  cases op with
  | And => exact pw_and1 ha
  | Or => exact pw_or1 ha
theorem sTs_cons {op : BoolOp} {a b : Expr} {r : List Expr} {pos : Pos} {fa fr : En → R (Bool × En)} (ha : PT X a (tT X.K X.mg W fa)) (hr : PW X (.BoolOp op (b :: r) pos) (tT X.K X.mg W fr)) :
    PW X (.BoolOp op (a :: b :: r) pos) (tT X.K X.mg W fun e => (fa e).bind fun (c, e1) => if stops op c then .ok (c, e1) else fr e1) := by
  refine ⟨fun wh pins s σ H Q I ⟨e, F, A, S, post⟩ => ?_⟩
  cases op with
  | And =>
    refine isTrue_and (seqT (T := []) ha I S nilA post fun c e1 h1 s1 H1 F1 A1 I1 st1 st01 S1 post => ?_)
    have st01 : Step A H F A1 H1 F1 := by simpa using st01
    cases c with
    | true =>
      simp only [stops, Bool.not_true, Bool.false_eq_true, if_false] at post
      exact hr.run wh pins s1 σ H1 Q I1 (tT_past S1 st01 post)
    | false =>
      simp only [stops, Bool.not_false, if_true] at post
      have pp : OkT X.K X.mg σ A H F Q (false, e1) := post
      exact ⟨H1, I1, pp H1 F1 A1 st01 S1⟩
  | Or =>
    refine isTrue_or (seqT (T := []) ha I S nilA post fun c e1 h1 s1 H1 F1 A1 I1 st1 st01 S1 post => ?_)
    have st01 : Step A H F A1 H1 F1 := by simpa using st01
    cases c with
    | false =>
      simp only [stops, Bool.false_eq_true, if_false] at post
      exact hr.run wh pins s1 σ H1 Q I1 (tT_past S1 st01 post)
    | true =>
      simp only [stops, if_true] at post
      have pp : OkT X.K X.mg σ A H F Q (true, e1) := post
      exact ⟨H1, I1, pp H1 F1 A1 st01 S1⟩
end
end Ev

set_option Elab.async false
set_option linter.all false
set_option maxRecDepth 100000
set_option maxHeartbeats 1000000
/-! Ev13: targets; what is walked. -/
namespace Ev
open PySem L2

/-- σ' parts from σ in slots of P alone -/
def Off (P : Nat → Prop) (σ σ' : St) : Prop := σ'.length = σ.length ∧ ∀ j, ¬ P j → σ'[j]? = σ[j]?
theorem Off.refl (P : Nat → Prop) (σ : St) : Off P σ σ := ⟨rfl, fun _ _ => rfl⟩
theorem Off.trans {P : Nat → Prop} {σ σ1 σ2 : St} (a : Off P σ σ1) (b : Off P σ1 σ2) : Off P σ σ2 := ⟨b.1.trans a.1, fun j h => (b.2 j h).trans (a.2 j h)⟩
theorem Off.set {P : Nat → Prop} {σ : St} {i : Nat} (x : Option V) (h : P i) : Off P σ (σ.set i x) := ⟨by rw [List.length_set], fun j q => by
  rw [List.getElem?_set_ne]
  rintro rfl
  exact q h⟩
/-- a slot that may be stored -/
def LocS (G : Cn) (j : Nat) : Prop := ∃ x, slotOf G.N x = some j ∧ G.loc x = true ∧ G.bor.contains j = false
def OkG (K : PySem.W.Frag) (mg : Str → Option Value) (G : Cn) (σ : St) (B : List Addr) (H F : Hp) (Q : St → Hp → Prop) : En → Prop := fun e' =>
  ∀ σ' H' F' A', Step B H F A' H' F' → Sta K mg F' H' σ' e' A' → Off (LocS G) σ σ' → Q σ' H'
/-- a value goes to a target -/
def tG (K : PySem.W.Frag) (mg : Str → Option Value) (G : Cn) (W : WX) (f : D → En → R En) : TG := fun v σ H Q => ∃ e F A d as, Sta K mg F H σ e A ∧ Rep K mg F H d v as ∧ as.Nodup ∧ (∀ a ∈ as, a ∉ A ∧ F a = none) ∧ PostG W σ (as ++ A) H F (f d e) (OkG K mg G σ (as ++ A) H F Q)
def tGs (K : PySem.W.Frag) (mg : Str → Option Value) (G : Cn) (W : WX) (f : List D → En → R En) : TGs := fun vs σ H Q => ∃ e F A ds as, Sta K mg F H σ e A ∧ ReL K mg F H ds vs as ∧ as.Nodup ∧ (∀ a ∈ as, a ∉ A ∧ F a = none) ∧ PostG W σ (as ++ A) H F (f ds e) (OkG K mg G σ (as ++ A) H F Q)

section
variable {K : PySem.W.Frag} {mg : Str → Option Value} {F H : Hp} {σ : St} {e : En} {A as : List Addr}
/-- a datum is put into a slot -/
theorem Sta.put {i : Nat} {d : D} {v : V} (S : Sta K mg F H σ e A) (hi : i < e.length) (r : Rep K mg F H d v as) (nd : as.Nodup) (dj : ∀ a ∈ as, a ∉ A ∧ F a = none) :
    ∃ A', Sta K mg F H (σ.set i (some v)) (e.set i (some d)) A' ∧ (∀ a ∈ A', a ∈ as ++ A) := by
  obtain ⟨pre, a1, post, q1, q2⟩ := EL.put S.el hi
  have nA := S.nd
  rw [q1] at nA
  refine ⟨pre ++ as ++ post, ⟨S.sub, q2 d v as r, ?_, fun a z => ?_⟩, fun a z => ?_⟩
  · obtain ⟨n1, n2, n3⟩ := List.nodup_append.mp nA
    obtain ⟨m1, m2, m3⟩ := List.nodup_append.mp n1
    refine List.nodup_append.mpr ⟨List.nodup_append.mpr ⟨m1, nd, fun a z b y q => (dj b y).1 ?_⟩, n2, fun a z b y q => ?_⟩
    · rw [q1, ← q]; simp [z]
    · rcases List.mem_append.mp z with z | z
      · exact n3 a (List.mem_append_left _ z) b y q
      · exact (dj a z).1 (by rw [q1, q]; simp [y])
  · simp only [List.mem_append] at z
    rcases z with (z | z) | z
    · exact S.no a (by rw [q1]; simp [z])
    · exact (dj a z).2
    · exact S.no a (by rw [q1]; simp [z])
  · simp only [List.mem_append] at z ⊢
    rcases z with (z | z) | z
    · exact .inr (by rw [q1]; simp [z])
    · exact .inl z
    · exact .inr (by rw [q1]; simp [z])
end

section
variable {M : Gb} {cl : Cl} {G : Cn} {k : Nat} {W : WX} {X : Cx}
theorem asgN_some {x : Str} {d : D} {e e' : En} (h : asgN G x d e = .ok e') : ∃ i, slotOf G.N x = some i ∧ G.loc x = true ∧ i < e.length ∧ G.bor.contains i = false ∧ e' = e.set i (some d) := by
  unfold asgN at h
  split at h
  · rename_i i hs
    split at h
    · rename_i hl
      unfold setS at h
      split at h
      · cases h
      · rename_i hb
        split at h
        · rename_i hi
          cases h
          exact ⟨i, hs, hl, hi, by simpa using hb, rfl⟩
        · cases h
    · cases h
  · cases h
theorem asgN_noerr {x : Str} {d : D} {e : En} {c : Str} {fs : List (Str × D)} {e1 : En} (h : asgN G x d e = .err c fs e1) : False := by
  unfold asgN at h
  split at h
  · split at h
    · unfold setS at h
      split at h
      · cases h
      · split at h <;> cases h
    · cases h
  · cases h
theorem sG_name (g : Good M cl G k W X) (x : Str) (pos : Pos) : PG X (.Name x pos) (tG X.K X.mg G W (asgN G x)) := by
  refine ⟨fun pins s σ H v u Q I r ⟨e, F, A, d, as, S, rp, nd, dj, post⟩ => ?_⟩
  cases hf : asgN G x d e with
  | err _ _ _ => exact (asgN_noerr hf).elim
  | stuck => rw [hf] at post; exact post.elim
  | ok e' =>
    rw [hf] at post
    have post : OkG X.K X.mg G σ (as ++ A) H F Q e' := post
    obtain ⟨i, hs, hl, hi, hb, ee⟩ := asgN_some hf
    subst ee
    obtain ⟨l1, l2⟩ := g.loc hl
    obtain ⟨A', S', sub⟩ := S.put hi rp nd dj
    exact (pg_name (by rw [g.N]; exact g.nd) (g.at_ hs) l1 l2).run pins s σ H v u Q I r (post _ H F A' (Step.refl sub) S' (Off.set _ ⟨x, hs, hl, hb⟩))
theorem asgNs_noerr : ∀ {ts : List Expr} {ds : List D} {e : En} {c : Str} {fs : List (Str × D)} {e1 : En}, asgNs G ts ds e = .err c fs e1 → False
  | [], [], e, c, fs, e1, h => by cases h
  | [], _ :: _, e, c, fs, e1, h => by cases h
  | t :: ts, [], e, c, fs, e1, h => by cases t <;> cases h
  | t :: ts, d :: ds, e, c, fs, e1, h => by
    cases t <;> simp only [asgNs] at h <;> try cases h
    rename_i x p
    cases q : asgN G x d e with
    | err _ _ _ => exact asgN_noerr q
    | stuck => rw [q] at h; cases h
    | ok e2 => rw [q] at h; exact asgNs_noerr h
theorem sGs (g : Good M cl G k W X) : ∀ (ts : List Expr), (∀ (ds : List D) (e e' : En), asgNs G ts ds e = .ok e' → (assignEach ts X.env).length = ts.length ∧ (assignEach ts X.env).findIdx? (·.1) = none) ∧ PGs X ts (tGs X.K X.mg G W (asgNs G ts))
  | [] => ⟨fun _ _ _ _ => ⟨rfl, rfl⟩, ⟨fun pins s σ H vs us Q I r ⟨e, F, A, ds, as, S, rp, nd, dj, post⟩ => by
      cases ds with
      | cons _ _ => exact post.elim
      | nil =>
        have post : OkG X.K X.mg G σ (as ++ A) H F Q e := post
        simp only [ReL] at rp
        exact pgs_nil.run pins s σ H vs us Q I r ⟨rp.1, post σ H F A (Step.refl fun _ z => List.mem_append_right _ z) S (Off.refl _ _)⟩⟩⟩
  | t :: ts => by
    obtain ⟨ih1, ih2⟩ := sGs g ts
    by_cases hn : ∃ x p, t = .Name x p
    · obtain ⟨x, p, et⟩ := hn
      subst et
      refine ⟨fun ds e e' h => ?_, ?_⟩
      · cases ds with
        | nil => cases h
        | cons d ds =>
          simp only [asgNs] at h
          cases q : asgN G x d e with
          | err _ _ _ => rw [q] at h; cases h
          | stuck => rw [q] at h; cases h
          | ok e2 =>
            rw [q] at h
            obtain ⟨j1, j2⟩ := ih1 ds e2 e' h
            have ea : assignEach (Expr.Name x p :: ts) X.env = (false, assign (.Name x p) X.env) :: assignEach ts X.env := rfl
            rw [ea]
            refine ⟨by rw [List.length_cons, List.length_cons, j1], ?_⟩
            rw [List.findIdx?_cons]
            simp [j2]
      · refine ⟨fun pins s σ H vs us Q I r ⟨e, F, A, ds, as, S, rp, nd, dj, post⟩ => ?_⟩
        cases ds with
        | nil => exact post.elim
        | cons d ds =>
          simp only [asgNs] at post
          simp only [ReL] at rp
          obtain ⟨v, vr, a1, a2, ev, ea, h1, h2⟩ := rp
          subst ev; subst ea
          obtain ⟨n1, n2, n3⟩ := List.nodup_append.mp nd
          refine (pgs_cons (sG_name g x p) ih2).run pins s σ H _ us Q I r ⟨v, vr, rfl, e, F, A, d, a1, S, h1, n1, fun a z => dj a (List.mem_append_left _ z), ?_⟩
          cases q : asgN G x d e with
          | err _ _ _ => exact (asgN_noerr q).elim
          | stuck => rw [q] at post; exact post.elim
          | ok e2 =>
            rw [q] at post
            obtain ⟨i, hs, hl, hi, hb, ee⟩ := asgN_some q
            intro σ' H' F' A' st S' off
            have st2 := st.frame a2
            have dead : ∀ a ∈ a2, a ∉ a1 ++ A := fun a z y => by
              rcases List.mem_append.mp y with y | y
              · exact n3 a y a z rfl
              · exact (dj a (List.mem_append_right _ z)).1 y
            have r2 : ReL X.K X.mg F' H' ds vr a2 := ReL.mono st.le ds vr a2 (fun a z o ho => st.keep a o ho (dead a z)) h2
            have lv := ReL.live ds vr a2 h2
            have out : ∀ a ∈ a2, a ∉ A' ∧ F' a = none := fun a z => by
              obtain ⟨o, ho⟩ := lv a z
              refine ⟨fun y => ?_, ?_⟩
              · rcases st.own a y with w | w
                · exact dead a z w
                · rw [ho] at w; cases w
              · cases q2 : F' a with
                | none => rfl
                | some o' =>
                  rcases st.fr a (by rw [q2]; simp) with w | w | w
                  · exact absurd (dj a (List.mem_append_right _ z)).2 w
                  · exact absurd w (dead a z)
                  · rw [ho] at w; cases w
            have st3 : Step (a1 ++ a2 ++ A) H F (a2 ++ A') H' F' := st2.more fun y z => by
              simp only [List.mem_append] at z ⊢
              rcases z with z | z | z <;> simp [z]
            have post : PostG W σ' (a1 ++ a2 ++ A) H F (asgNs G ts ds e2) (OkG X.K X.mg G σ (a1 ++ a2 ++ A) H F Q) := PostG.any post
            exact ⟨e2, F', A', ds, a2, S', r2, n2, out, PostG.past st3 post fun b hb σ2 H2 F2 A2 st4 S2 off2 => hb σ2 H2 F2 A2 (st3.trans st4) S2 (off.trans off2)⟩
    · refine ⟨fun ds e e' h => ?_, ⟨fun pins s σ H vs us Q I r ⟨e, F, A, ds, as, S, rp, nd, dj, post⟩ => ?_⟩⟩
      · cases ds with
        | nil => cases t <;> cases h
        | cons d ds => cases t <;> first | cases h | exact absurd ⟨_, _, rfl⟩ hn
      · cases ds with
        | nil => cases t <;> exact post.elim
        | cons d ds => cases t <;> first | exact post.elim | exact absurd ⟨_, _, rfl⟩ hn
/-- a loop's target: a name, or a tuple of names -/
theorem sG (g : Good M cl G k W X) (tg : Expr) : PG X tg (tG X.K X.mg G W (asgT G tg)) := by
  by_cases h1 : ∃ x p, tg = .Name x p
  · obtain ⟨x, p, et⟩ := h1
    subst et
    exact sG_name g x p
  · by_cases h2 : ∃ ts j p, tg = .Tuple ts j p
    · obtain ⟨ts, j, p, et⟩ := h2
      subst et
      refine ⟨fun pins s σ H v u Q I r ⟨e, F, A, d, as, S, rp, nd, dj, post⟩ => ?_⟩
      cases d <;> first | exact post.elim | skip
      rename_i ds
      simp only [asgT] at post
      by_cases hl : (ts.length == ds.length) = true
      · rw [if_pos hl] at post
        obtain ⟨a, xs, ev, hs, hr⟩ := rep_tup rp
        have has : as = [] := Rep.bare rfl rp
        subst has
        cases hf : asgNs G ts ds e with
        | err _ _ _ => exact (asgNs_noerr hf).elim
        | stuck => rw [hf] at post; exact post.elim
        | ok e' =>
          obtain ⟨w1, w2⟩ := (sGs g ts).1 ds e e' hf
          refine (pg_tup g.calm (sGs g ts).2 rfl w2).run pins s σ H v u Q I r ⟨a, xs, ev, S.sub.seqT hs, by rw [w1, ← hr.length]; exact (eq_of_beq hl).symm, e, F, A, ds, [], S, hr, .nil, fun a z => absurd z (by simp), post⟩
      · rw [if_neg hl] at post; exact post.elim
    · refine ⟨fun pins s σ H v u Q I r ⟨e, F, A, d, as, S, rp, nd, dj, post⟩ => ?_⟩
      cases tg <;> first
        | exact absurd ⟨_, _, rfl⟩ h1
        | exact absurd ⟨_, _, _, rfl⟩ h2
        | exact post.elim
end

/-! ### what is walked -/
structure ItOk (K : PySem.W.Frag) (mg : Str → Option Value) (F : Hp) (J : It) (ds : List D) : Prop where
  go : ∀ i H2 F2, Le F F2 → Le F2 H2 → i < ds.length → J.go i H2
  yld : ∀ i H2 F2 x H3 d, Le F F2 → Le F2 H2 → ds[i]? = some d → J.yld i H2 x H3 → ∃ F3, Step [] H2 F2 [] H3 F3 ∧ Le F3 H3 ∧ Rep K mg F3 H3 d x []
  stop : ∀ H2 F2, Le F F2 → Le F2 H2 → J.stop ds.length H2
def OkI (K : PySem.W.Frag) (mg : Str → Option Value) (σ : St) (B : List Addr) (H F : Hp) (R : It → Hp → Prop) : List D × En → Prop := fun x =>
  ∀ J H' F' A', Step B H F A' H' F' → Sta K mg F' H' σ x.2 A' → ItOk K mg F' J x.1 → R J H'
def tI (K : PySem.W.Frag) (mg : Str → Option Value) (W : WX) (f : En → R (List D × En)) : TI := fun σ H R => ∃ e F A, Sta K mg F H σ e A ∧ PostG W σ A H F (f e) (OkI K mg σ A H F R)
section
variable {K : PySem.W.Frag} {mg : Str → Option Value} {F H : Hp}
theorem rel_at {ds : List D} {vs : List V} {i : Nat} {d : D} (r : ReL K mg F H ds vs []) (h : ds[i]? = some d) : ∃ v, vs[i]? = some v ∧ Rep K mg F H d v [] := by
  obtain ⟨v, pre, a1, post, q1, q2, q3, _⟩ := ReL.at r h
  have hb : a1 = [] := by
    have := congrArg List.length q2
    simp only [List.length_nil, List.length_append] at this
    exact List.length_eq_zero_iff.mp (by omega)
  subst hb
  exact ⟨v, q1, q3⟩
/-- a frozen datum may be read at any later heap -/
theorem Rep.later {d : D} {v : V} {F2 H2 : Hp} (l : Le F F2) (h : Rep K mg F H d v []) : Rep K mg F2 H2 d v [] := Rep.mono l d v [] (fun _ z => absurd z (by simp)) h
theorem itok_lst {a : Addr} {ds : List D} {vs : List V} (hs : SqL K F a vs) (r : ReL K mg F H ds vs []) : ItOk K mg F (Itl K a) ds where
  go := fun i H2 F2 l1 l2 hi => by
    obtain ⟨v, hv, _⟩ := rel_at r (List.getElem?_eq_getElem hi)
    exact ⟨vs, v, (l1.trans l2).seqL hs, hv⟩
  yld := fun i H2 F2 x H3 d l1 l2 hd ⟨e, hy⟩ => by
    subst e
    obtain ⟨v, hv, rv⟩ := rel_at r hd
    have := hy vs ((l1.trans l2).seqL hs)
    rw [hv] at this
    cases this
    exact ⟨F2, Step.refl fun _ z => z, l2, rv.later l1⟩
  stop := fun H2 F2 l1 l2 => ⟨vs, (l1.trans l2).seqL hs, by rw [r.length]; exact Nat.le_refl _⟩
theorem itok_tup {a : Addr} {ds : List D} {vs : List V} (hs : SqT K F a vs) (r : ReL K mg F H ds vs []) : ItOk K mg F (Itt K a) ds where
  go := fun i H2 F2 l1 l2 hi => by
    obtain ⟨v, hv, _⟩ := rel_at r (List.getElem?_eq_getElem hi)
    exact ⟨vs, v, (l1.trans l2).seqT hs, hv⟩
  yld := fun i H2 F2 x H3 d l1 l2 hd ⟨e, hy⟩ => by
    subst e
    obtain ⟨v, hv, rv⟩ := rel_at r hd
    have := hy vs ((l1.trans l2).seqT hs)
    rw [hv] at this
    cases this
    exact ⟨F2, Step.refl fun _ z => z, l2, rv.later l1⟩
  stop := fun H2 F2 l1 l2 => ⟨vs, (l1.trans l2).seqT hs, by rw [r.length]; exact Nat.le_refl _⟩
theorem rgD_length (i : Int) (n : Nat) : (rgD i n).length = n := by unfold rgD; rw [List.length_map, List.length_range]
theorem rgD_at {i : Int} {n j : Nat} {d : D} (h : (rgD i n)[j]? = some d) : d = .int (i + (j : Int)) := by
  unfold rgD at h
  rw [List.getElem?_map] at h
  cases q : (List.range n)[j]? with
  | none => rw [q] at h; cases h
  | some m =>
    rw [q] at h
    obtain ⟨h1, h2⟩ := List.getElem?_eq_some_iff.mp q
    rw [List.getElem_range] at h2
    subst h2
    cases h
    rfl
theorem itok_rng (i : Int) (n : Nat) : ItOk K mg F (Itr i n) (rgD i n) where
  go := fun j H2 F2 l1 l2 hi => by rw [rgD_length] at hi; exact hi
  yld := fun j H2 F2 x H3 d l1 l2 hd ⟨e, hy⟩ => by
    subst e
    rw [rgD_at hd, hy]
    exact ⟨F2, Step.refl fun _ z => z, l2, by simp [Rep]⟩
  stop := fun H2 F2 l1 l2 => by rw [rgD_length]; exact Nat.le_refl _
theorem enD_at : ∀ {ds : List D} {n i : Nat} {d : D}, (enD n ds)[i]? = some d → ∃ c, ds[i]? = some c ∧ d = .tup [.int ((n + i : Nat) : Int), c]
  | [], n, i, d, h => by simp [enD] at h
  | c :: r, n, 0, d, h => by simp [enD] at h; exact ⟨c, rfl, h.symm⟩
  | c :: r, n, i + 1, d, h => by
    simp only [enD, List.getElem?_cons_succ] at h
    obtain ⟨c', h1, h2⟩ := enD_at h
    exact ⟨c', by simpa using h1, by rw [h2]; congr 3; omega⟩
theorem enD_length : ∀ (ds : List D) (n : Nat), (enD n ds).length = ds.length
  | [], n => rfl
  | c :: r, n => by simp only [enD, List.length_cons, enD_length r (n + 1)]
theorem itok_enum {a : Addr} {ds : List D} {vs : List V} (hs : SqL K F a vs) (r : ReL K mg F H ds vs []) : ItOk K mg F (Ite K a) (enD 0 ds) where
  go := fun i H2 F2 l1 l2 hi => by
    rw [enD_length] at hi
    obtain ⟨v, hv, _⟩ := rel_at r (List.getElem?_eq_getElem hi)
    exact ⟨vs, v, (l1.trans l2).seqL hs, hv⟩
  yld := fun i H2 F2 x H3 d l1 l2 hd ⟨T, y, ex, hT, eH, hy⟩ => by
    obtain ⟨c, hc, ed⟩ := enD_at hd
    obtain ⟨v, hv, rv⟩ := rel_at r hc
    have := hy vs ((l1.trans l2).seqL hs)
    rw [hv] at this
    cases this
    subst eH; subst ex; subst ed
    have hf : F2 T = none := by
      cases q : F2 T with
      | none => rfl
      | some o => rw [l2 T o q] at hT; cases hT
    refine ⟨upd F2 T (.tup [.int (i : Nat), y]), Step.newF hT hf, fun b o q => ?_, ?_⟩
    · by_cases z : b = T
      · subst z; rw [upd_same] at q ⊢; exact q
      · rw [upd_ne z] at q ⊢; exact l2 b o q
    · have l3 : Le F (upd F2 T (.tup [.int (i : Nat), y])) := fun b o q => by
        have q2 := l1 b o q
        rw [upd_ne (ne_of_none q2 hf)]; exact q2
      simp only [Rep, ReL]
      refine ⟨trivial, T, _, rfl, .inl (.inl upd_same), V.int (i : Nat), [y], [], [], rfl, rfl, ⟨by simp, rfl⟩, y, [], [], [], rfl, rfl, rv.later l3, rfl, rfl⟩
  stop := fun H2 F2 l1 l2 => ⟨vs, (l1.trans l2).seqL hs, by rw [enD_length, r.length]; exact Nat.le_refl _⟩
end
end Ev

set_option Elab.async false
set_option linter.all false
set_option maxRecDepth 100000
set_option maxHeartbeats 1000000
/-! Ev14: comprehensions. -/
namespace Ev
open PySem L2

theorem R.bind_assoc {α β γ : Type} (x : R α) (f : α → R β) (g : β → R γ) : (x.bind f).bind g = x.bind fun a => (f a).bind g := by cases x <;> rfl

section
variable {K : PySem.W.Frag} {mg : Str → Option Value} {F H F' H' : Hp} {σ : St} {e : En} {A A' : List Addr}
/-- slots are forgotten -/
theorem EL.wipe : ∀ (vs : List Nat) {A : List Addr}, A.Nodup → EL K mg F H e σ A → ∃ A', EL K mg F H (wipeE e vs) (wipe σ vs) A' ∧ A'.Nodup ∧ ∀ a ∈ A', a ∈ A
  | [], A, nd, h => ⟨A, h, nd, fun _ z => z⟩
  | v :: vs, A, nd, h => by
    obtain ⟨A1, h1, n1, s1⟩ := EL.wipe vs nd h
    obtain ⟨pre, a1, post, q1, _, _, q2⟩ := EL.drop (σ := L2.wipe σ vs) v h1
    refine ⟨pre ++ post, q2 none, ?_, fun a z => s1 a ?_⟩
    · rw [q1] at n1
      obtain ⟨m1, m2, m3⟩ := List.nodup_append.mp n1
      obtain ⟨k1, k2, k3⟩ := List.nodup_append.mp m1
      exact List.nodup_append.mpr ⟨k1, m2, fun a z b y => m3 a (List.mem_append_left _ z) b y⟩
    · rw [q1]
      rcases List.mem_append.mp z with z | z <;> simp [z]
theorem Sta.wipe (vs : List Nat) (S : Sta K mg F H σ e A) : ∃ A', Sta K mg F H (L2.wipe σ vs) (wipeE e vs) A' ∧ ∀ a ∈ A', a ∈ A := by
  obtain ⟨A', h1, h2, h3⟩ := EL.wipe vs S.nd S.el
  exact ⟨A', ⟨S.sub, h1, h2, fun a z => S.no a (h3 a z)⟩, h3⟩
def patchS (s0 : St) : St → List Nat → St
  | s, [] => s
  | s, v :: vs => patchS s0 (s.set v (match s0[v]? with | some o => o | none => none)) vs
/-- what is read back into forgotten slots owns nothing -/
theorem EL.patch {e0 : En} {s0 : St} : ∀ (vs : List Nat) {e : En} {σ : St} {A : List Addr}, A.Nodup → EL K mg F H e σ A → (∀ v ∈ vs, ∀ d, getE e0 v = some d → ∃ u, s0[v]? = some (some u) ∧ Rep K mg F H d u []) →
    ∃ A', EL K mg F H (patchE e0 e vs) (patchS s0 σ vs) A' ∧ A'.Nodup ∧ ∀ a ∈ A', a ∈ A
  | [], e, σ, A, nd, h, q => ⟨A, h, nd, fun _ z => z⟩
  | v :: vs, e, σ, A, nd, h, q => by
    have step : ∃ A1, EL K mg F H (e.set v (match e0[v]? with | some o => o | none => none)) (σ.set v (match s0[v]? with | some o => o | none => none)) A1 ∧ A1.Nodup ∧ ∀ a ∈ A1, a ∈ A := by
      obtain ⟨pre, a1, post, q1, _, _, q2⟩ := EL.drop (σ := σ) v h
      have nd1 : (pre ++ post).Nodup := by
        rw [q1] at nd
        obtain ⟨m1, m2, m3⟩ := List.nodup_append.mp nd
        obtain ⟨k1, k2, k3⟩ := List.nodup_append.mp m1
        exact List.nodup_append.mpr ⟨k1, m2, fun a z b y => m3 a (List.mem_append_left _ z) b y⟩
      have sub1 : ∀ a ∈ pre ++ post, a ∈ A := fun a z => by
        rw [q1]; rcases List.mem_append.mp z with z | z <;> simp [z]
      cases hg : getE e0 v with
      | none =>
        have : (match e0[v]? with | some o => o | none => none) = (none : Option D) := by
          unfold getE at hg
          split at hg
          · cases hg
          · rename_i hne
            split
            · rename_i o ho
              cases o with
              | none => rfl
              | some d => exact absurd ho (hne d)
            · rfl
        rw [this]
        exact ⟨pre ++ post, q2 _, nd1, sub1⟩
      | some d =>
        obtain ⟨u, hu, hr⟩ := q v List.mem_cons_self d hg
        have e1 : (match e0[v]? with | some o => o | none => none) = some d := by
          unfold getE at hg
          split at hg
          · rename_i d' ho
            cases hg
            rw [ho]
          · cases hg
        rw [e1, hu]
        by_cases hv : v < (e.set v none).length
        · obtain ⟨p1, b1, r1, w1, w2⟩ := EL.put (q2 none) hv
          have h3 := w2 d u [] hr
          rw [List.set_set, List.set_set] at h3
          refine ⟨p1 ++ [] ++ r1, h3, ?_, fun a z => sub1 a ?_⟩
          · rw [w1] at nd1
            obtain ⟨m1, m2, m3⟩ := List.nodup_append.mp nd1
            obtain ⟨k1, k2, k3⟩ := List.nodup_append.mp m1
            rw [List.append_nil]
            exact List.nodup_append.mpr ⟨k1, m2, fun a z b y => m3 a (List.mem_append_left _ z) b y⟩
          · rw [w1]
            simp only [List.append_nil, List.mem_append] at z ⊢
            rcases z with z | z <;> simp [z]
        · rw [List.length_set] at hv
          have l1 := h.length
          rw [List.set_eq_of_length_le (by omega), List.set_eq_of_length_le (by omega)]
          exact ⟨A, h, nd, fun _ z => z⟩
    obtain ⟨A1, h1, n1, s1⟩ := step
    obtain ⟨A2, h2, n2, s2⟩ := EL.patch vs n1 h1 fun w hw d hd => q w (List.mem_cons_of_mem _ hw) d hd
    exact ⟨A2, h2, n2, fun a z => s1 a (s2 a z)⟩
theorem wipe_get {σ : St} : ∀ (vs : List Nat) (j : Nat), (L2.wipe σ vs)[j]? = if j ∈ vs ∧ j < σ.length then some none else σ[j]?
  | [], j => by simp [L2.wipe]
  | v :: vs, j => by
    show ((L2.wipe σ vs).set v none)[j]? = _
    by_cases h : v = j
    · subst h
      by_cases hl : v < σ.length
      · rw [List.getElem?_set_self (by rw [L2.wipe_length]; exact hl)]
        simp [hl]
      · rw [List.getElem?_eq_none (by rw [List.length_set, L2.wipe_length]; omega)]
        rw [if_neg (fun z => hl z.2), List.getElem?_eq_none (by omega)]
    · rw [List.getElem?_set_ne h, wipe_get vs j]
      have : (j ∈ v :: vs) ↔ j ∈ vs := by simp [Ne.symm h]
      simp only [this]
theorem wipe_off {σ σ' : St} {vs : List Nat} {P : Nat → Prop} (hP : ∀ j, P j → j ∈ vs) (h : Off P (L2.wipe σ vs) σ') : L2.wipe σ' vs = L2.wipe σ vs := by
  refine List.ext_getElem? fun j => ?_
  have hl : σ'.length = σ.length := by rw [h.1, L2.wipe_length]
  rw [wipe_get, hl]
  by_cases q : j ∈ vs
  · by_cases hj : j < σ.length
    · rw [if_pos ⟨q, hj⟩, wipe_get, if_pos ⟨q, hj⟩]
    · rw [if_neg fun z => hj z.2, List.getElem?_eq_none (by omega), List.getElem?_eq_none (by rw [L2.wipe_length]; omega)]
  · rw [if_neg fun z => q z.1]
    exact h.2 j fun z => q (hP j z)
theorem patchS_get (s0 : St) : ∀ (vs : List Nat) (s : St) (j : Nat), s.length = s0.length → (patchS s0 s vs)[j]? = if j ∈ vs then s0[j]? else s[j]?
  | [], s, j, hl => by simp [patchS]
  | v :: vs, s, j, hl => by
    have ih := patchS_get s0 vs (s.set v (match s0[v]? with | some o => o | none => none)) j (by rw [List.length_set]; exact hl)
    show (patchS s0 (s.set v _) vs)[j]? = _
    rw [ih]
    by_cases q : j ∈ vs
    · simp [q]
    · by_cases h : v = j
      · subst h
        simp only [q, if_false, List.mem_cons, true_or, if_true]
        by_cases hv : v < s0.length
        · rw [List.getElem?_set_self (by omega), List.getElem?_eq_getElem hv]
        · rw [List.getElem?_eq_none (by rw [List.length_set]; omega), List.getElem?_eq_none (by omega)]
      · rw [List.getElem?_set_ne h]
        simp [q, Ne.symm h]
theorem patch_wipe (σ : St) (vs : List Nat) : patchS σ (L2.wipe σ vs) vs = σ := by
  refine List.ext_getElem? fun j => ?_
  rw [patchS_get σ vs _ j (L2.wipe_length _ _), wipe_get]
  by_cases q : j ∈ vs
  · rw [if_pos q]
  · rw [if_neg q, if_neg fun z => q z.1]
theorem Sta.back {F1 H1 : Hp} {e1 e2 : En} {A1 A2 : List Addr} {vs : List Nat} (S1 : Sta K mg F1 H1 σ e1 A1) (hf : freeE e1 vs = true) (l : Le F1 F) (S2 : Sta K mg F H (L2.wipe σ vs) (wipeE e2 vs) A2) : ∃ A', Sta K mg F H σ (backE e1 e2 vs) A' ∧ ∀ a ∈ A', a ∈ A2 := by
  have low : ∀ v ∈ vs, ∀ d, getE e1 v = some d → ∃ u, σ[v]? = some (some u) ∧ Rep K mg F H d u [] := by
    intro v hv d hd
    obtain ⟨u, pre, a1, post, q1, q2, q3, _⟩ := EL.at S1.el hd
    have ho : owned d = false := by
      have : ∀ (vs : List Nat), freeE e1 vs = true → v ∈ vs → owned d = false := by
        intro vs
        induction vs with
        | nil => intro _ z; exact absurd z (by simp)
        | cons w r ih =>
          intro h z
          unfold freeE at h
          rw [Bool.and_eq_true] at h
          rcases List.mem_cons.mp z with q | q
          · subst q
            rw [hd] at h
            simpa using h.1
          · exact ih h.2 q
      exact this vs hf hv
    rw [Rep.bare ho q3] at q3
    exact ⟨u, q1, q3.later l⟩
  obtain ⟨A', h1, h2, h3⟩ := EL.patch vs S2.nd S2.el low
  rw [patch_wipe] at h1
  exact ⟨A', ⟨S2.sub, h1, h2, fun a z => S2.no a (h3 a z)⟩, h3⟩

/-- the list under way: at D, its items own bs -/
structure Way (K : PySem.W.Frag) (mg : Str → Option Value) (D : Addr) (out : List Ev.D) (ws : List V) (bs : List Addr) (F H : Hp) (A : List Addr) : Prop where
  at_ : H D = some (.lst ws)
  rel : ReL K mg F H out ws bs
  nd : bs.Nodup
  ne : D ∉ bs
  dj : ∀ a ∈ D :: bs, a ∉ A ∧ F a = none
theorem Way.live {D : Addr} {out : List Ev.D} {ws : List V} {bs : List Addr} (w : Way K mg D out ws bs F H A) : ∀ a ∈ D :: bs, ∃ o, H a = some o := fun a z => by
  rcases List.mem_cons.mp z with q | q
  · exact ⟨_, by rw [q]; exact w.at_⟩
  · exact ReL.live _ _ _ w.rel a q
theorem Way.past {D : Addr} {out : List Ev.D} {ws : List V} {bs cs : List Addr} (w : Way K mg D out ws bs F H A) (st : Step A H F (cs ++ A') H' F') : Way K mg D out ws bs F' H' A' ∧ ∀ a ∈ D :: bs, a ∉ cs := by
  have out' : ∀ a ∈ D :: bs, a ∉ cs ++ A' := fun a z q => by
    rcases st.own a q with y | y
    · exact (w.dj a z).1 y
    · obtain ⟨o, ho⟩ := w.live a z
      rw [ho] at y; cases y
  refine ⟨⟨st.keep D _ w.at_ (w.dj D List.mem_cons_self).1, ReL.mono st.le _ _ _ (fun a z o ho => st.keep a o ho (w.dj a (List.mem_cons_of_mem _ z)).1) w.rel, w.nd, w.ne, fun a z => ⟨fun q => out' a z (List.mem_append_right _ q), ?_⟩⟩, fun a z q => out' a z (List.mem_append_left _ q)⟩
  cases q : F' a with
  | none => rfl
  | some o =>
    rcases st.fr a (by rw [q]; simp) with y | y | y
    · exact absurd (w.dj a z).2 y
    · exact absurd y (w.dj a z).1
    · obtain ⟨o', ho⟩ := w.live a z
      rw [ho] at y; cases y
end

abbrev W0 : WX := fun _ _ _ _ => False
section
variable {M : Gb} {cl : Cl} {G : Cn} {k : Nat} {W : WX} {X : Cx}
theorem own_loc {scope : Scope} {j : Nat} (h : LocS (G.sub scope) j) : j ∈ (ownOf G.N scope).map (·.2) := by
  obtain ⟨x, hs, hl, _⟩ := h
  have hs : slotOf G.N x = some j := hs
  have key : ∃ kd, (kd = NameKind.local ∨ kd = NameKind.cell) ∧ (x, kd) ∈ scope.names := by
    unfold Cn.loc Cn.kind at hl
    have low : ∀ (ns : List (Str × NameKind)) (kd : NameKind), (ns.map fun (p : Str × NameKind) => if (p.2 == .free && G.sc.kind == .function && G.sc.names.lookup p.1 == some .cell) then (p.1, NameKind.cell) else (p.1, p.2)).lookup x = some kd → ∃ kd0, ns.lookup x = some kd0 ∧ (kd0 = kd ∨ (kd0 = .free ∧ kd = .cell)) := by
      intro ns kd
      induction ns with
      | nil => intro h; simp at h
      | cons p r ih =>
        obtain ⟨n, q⟩ := p
        intro h
        rw [List.map_cons] at h
        by_cases hx : (x == n) = true
        · refine ⟨q, by simp [List.lookup, hx], ?_⟩
          split at h
          · rename_i hc
            simp only [List.lookup, hx] at h
            simp only [Bool.and_eq_true] at hc
            exact .inr ⟨eq_of_beq hc.1.1, (Option.some.inj h).symm⟩
          · simp only [List.lookup, hx] at h
            exact .inl (Option.some.inj h)
        · have hx' : (x == n) = false := by simpa using hx
          have : (r.map fun (p : Str × NameKind) => if (p.2 == .free && G.sc.kind == .function && G.sc.names.lookup p.1 == some .cell) then (p.1, NameKind.cell) else (p.1, p.2)).lookup x = some kd := by
            split at h <;> simpa [List.lookup, hx'] using h
          obtain ⟨kd0, h1, h2⟩ := ih this
          exact ⟨kd0, by simpa [List.lookup, hx'] using h1, h2⟩
    have hsc : (G.sub scope).sc.names = scope.names.map fun (p : Str × NameKind) => if (p.2 == .free && G.sc.kind == .function && G.sc.names.lookup p.1 == some .cell) then (p.1, NameKind.cell) else (p.1, p.2) := rfl
    rw [hsc] at hl
    split at hl
    · rename_i q
      obtain ⟨kd0, h1, h2⟩ := low _ _ q
      rcases h2 with h2 | ⟨_, h2⟩
      · exact ⟨kd0, .inl h2, PySem.mem_of_lookup h1⟩
      · cases h2
    · have hl : (scope.names.lookup x == some NameKind.cell) = true := hl
      exact ⟨.cell, .inr rfl, PySem.mem_of_lookup (eq_of_beq hl)⟩
    · cases hl
  obtain ⟨kd, hk, hm⟩ := key
  refine List.mem_map.mpr ⟨(x, j), List.mem_filterMap.mpr ⟨(x, kd), hm, ?_⟩, rfl⟩
  rcases hk with hk | hk <;> subst hk <;> simp [hs]
end
end Ev

set_option Elab.async false
set_option linter.all false
set_option maxRecDepth 100000
set_option maxHeartbeats 2000000
/-! Ev15: a comprehension; what is walked. -/
namespace Ev
open PySem L2

section
variable {M : Gb} {cl : Cl} {G : Cn} {k : Nat} {W : WX} {X : Cx}
/-- within a comprehension's block -/
theorem Good.blk (g : Good M cl G k W X) (s : Shared) (H : Hp) (scope : Scope) (C : Addr) (cells : List (Str × Addr)) (fp : List Addr) : Good M cl (G.sub scope) k W0 (X.blk s H scope (compEnvC scope cells C X.env) fp) where
  N := g.N
  sc := by
    show relS scope X.env.scope = relS scope G.sc
    rw [g.sc]
  fn := rfl
  nd := g.nd
  nn := g.nn
  mod := g.mod
  calm := g.calm
  room := g.room
  guards := g.guards
  takes := fun _ _ x => by
    obtain ⟨_, _, _, _, _, _, _, _, _, _, _, _, _, _, _, _, z⟩ := x
    exact z.elim
  own := PassesOwn.never
  calls := g.calls
theorem nilA' {A : List Addr} {H F : Hp} : Step A H F ([] ++ A) H F := Step.refl fun _ z => by simpa using z
theorem tI_of {σ : St} {H F H0 F0 : Hp} {e : En} {A B0 T : List Addr} {β : Type} {φ : β → Prop} {f : En → R (List Ev.D × En)} {R : It → Hp → Prop} (S : Sta X.K X.mg F H σ e A) {g : List Ev.D × En → Ev.R β} (st0 : Step B0 H0 F0 (T ++ A) H F) (post : PostG W σ B0 H0 F0 ((f e).bind g) φ)
    (k : ∀ ds e', f e = .ok (ds, e') → ∀ J H' F' A', Step A H F A' H' F' → Step B0 H0 F0 (T ++ A') H' F' → Sta X.K X.mg F' H' σ e' A' → ItOk X.K X.mg F' J ds → PostG W σ B0 H0 F0 (g (ds, e')) φ → R J H') : tI X.K X.mg W f σ H R := by
  refine ⟨e, F, A, S, ?_⟩
  cases hf : f e with
  | ok y =>
    rw [hf] at post
    exact fun J H' F' A' h1 h2 h3 => k y.1 y.2 hf J H' F' A' h1 (st0.trans (h1.frame T)) h2 h3 post
  | err c fs e' => rw [hf] at post; exact ErrP.before st0 post
  | stuck => rw [hf] at post; exact post
abbrev fElt (fe : En → R (RV × En)) : En → R (Ev.D × En) := fun e => (fe e).bind fun (v, e') => take e' v
theorem drop_cons {α : Type} {l : List α} {i : Nat} (h : i < l.length) : l.drop i = l[i] :: l.drop (i + 1) := List.drop_eq_getElem_cons h
abbrev fLc (G : Cn) (scope : Scope) (tg : Expr) (fi : En → R (List Ev.D × En)) (ft : En → R (Bool × En)) (fe : En → R (RV × En)) : En → R (RV × En) := fun e => (fi e).bind fun (ds, e1) => if freeE e1 ((ownOf G.N scope).map (·.2)) then
        (lcL ((ownOf G.N scope).map (·.2)) (asgT (G.sub scope) tg) ft (fElt fe) ds [] e1).bind fun (out, e2) => .ok (.val (.lst .own out), backE e1 e2 ((ownOf G.N scope).map (·.2)))
        else .stuck
theorem lc_rd {tg : Expr} {scope : Scope} {fi : En → R (List Ev.D × En)} {fe : En → R (RV × En)} {ft : En → R (Bool × En)} {σ : St} {H : Hp} {Q : VK} (g : Good M cl G k W X) :
    tE X.K X.mg W (fLc G scope tg fi ft fe) σ H Q → tLc (tI X.K X.mg W fi) (tG X.K X.mg (G.sub scope) W0 (asgT (G.sub scope) tg)) (tT X.K X.mg W0 ft) (tE X.K X.mg W0 fe) ((ownOf G.N scope).map (·.2)) σ H Q := fun ⟨e, F, A, S, post⟩ => by
  unfold fLc at post
  have hloc : ∀ j, LocS (G.sub scope) j → j ∈ (ownOf G.N scope).map (·.2) := fun j h => own_loc h
  generalize (ownOf G.N scope).map (·.2) = vs at post hloc ⊢
  refine tI_of (T := []) S nilA' post fun ds e1 h1 J H1 F1 A1 st1 st01 S1 hJ post => ?_
  have st01 : Step A H F A1 H1 F1 := by simpa using st01
  by_cases hf : freeE e1 vs = true
  · simp only [hf, if_true] at post
    intro D hD
    -- what holds at the turn i
    let P : Nat → Hp → Prop := fun i H' => ∃ e' F' A' out ws bs, Sta X.K X.mg F' H' (L2.wipe σ vs) (wipeE e' vs) A' ∧ Way X.K X.mg D out ws bs F' H' A' ∧ Step A H F (D :: (bs ++ A')) H' F' ∧ Le F1 F' ∧
      PostG W σ A H F ((lcL vs (asgT (G.sub scope) tg) ft (fElt fe) (ds.drop i) out e').bind fun (out, e2) => .ok (.val (.lst .own out), backE e1 e2 vs)) (OkE X.K X.mg σ A H F Q)
    have dF : F1 D = none := S1.fresh hD
    have start : P 0 (upd H1 D (.lst [])) := by
      obtain ⟨A2, S2, sub2⟩ := S1.wipe vs
      have new := Step.new (B := A1) (F := F1) (o := .lst []) hD
      refine ⟨e1, F1, A2, [], [], [], S2.past (fun a o q => ?_) (Le.refl _) (fun a z o q => ?_) S2.no, ⟨upd_same, by simp [ReL], .nil, by simp, fun a z => ?_⟩, ((st01.trans new).less fun x z => ?_), Le.refl _, by simpa using post⟩
      · rw [upd_ne (ne_of_none (S1.sub a o q) hD)]; exact S1.sub a o q
      · rw [upd_ne (ne_of_none q hD)]; exact q
      · have : a = D := by simpa using z
        subst this
        exact ⟨fun q => S1.live (sub2 a q) hD, dF⟩
      · simp only [List.nil_append, List.mem_cons] at z ⊢
        exact z.imp id (sub2 x)
    refine ⟨fun i m H' => m = ds.length - i ∧ i ≤ ds.length ∧ P i H', ⟨ds.length, by simp, Nat.zero_le _, start⟩, ?_⟩
    rintro i m H' ⟨rfl, hi, e', F', A', out, ws, bs, S', w, st, l1, post⟩
    by_cases hlt : i < ds.length
    · right
      refine ⟨hJ.go i H' F' l1 S'.sub hlt, P (i + 1), fun H2 h2 => ⟨ds.length - (i + 1), by omega, rfl, hlt, h2⟩, fun x H2 hy => ?_⟩
      rw [drop_cons hlt] at post
      simp only [lcL, R.bind_assoc] at post
      obtain ⟨F2, st2, sub2, rx⟩ := hJ.yld i H' F' x H2 ds[i] l1 S'.sub (List.getElem?_eq_getElem hlt) hy
      -- the item has come
      have live2 : ∀ a ∈ A', H' a ≠ none := fun a z => S'.live z
      have S2 : Sta X.K X.mg F2 H2 (L2.wipe σ vs) (wipeE e' vs) A' := S'.past sub2 st2.le (fun a z o q => st2.keep a o q (by simp)) fun a z => by
        cases q : F2 a with
        | none => rfl
        | some o =>
          rcases st2.fr a (by rw [q]; simp) with y | y | y
          · exact absurd (S'.no a z) y
          · exact absurd y (by simp)
          · exact absurd y (live2 a z)
      have st2A : Step A' H' F' ([] ++ A') H2 F2 := by simpa using st2.frame A'
      obtain ⟨w2, _⟩ := w.past st2A
      have stt2 : Step A H F (D :: (bs ++ A')) H2 F2 := by
        have := st2.frame (D :: (bs ++ A'))
        rw [List.append_nil] at this
        exact st.trans this
      -- it goes to its names
      refine ⟨wipeE e' vs, F2, A', ds[i], [], S2, rx, .nil, fun a z => absurd z (by simp), ?_⟩
      cases ha : asgT (G.sub scope) tg ds[i] (wipeE e' vs) with
      | err _ _ _ => rw [ha] at post; exact ⟨post.no⟩
      | stuck => rw [ha] at post; exact post.elim
      | ok e2 =>
        rw [ha] at post
        simp only [R.bind] at post
        intro σ3 H3 F3 A3 st3 S3 off
        have wp := wipe_off hloc off
        refine ⟨wp, ?_⟩
        have st3 : Step A' H2 F2 A3 H3 F3 := by simpa using st3
        obtain ⟨w3, _⟩ := w2.past (cs := []) (by simpa using st3)
        have stt3 : Step A H F (D :: (bs ++ A3)) H3 F3 := by
          have := st3.frame (D :: bs)
          exact stt2.trans (by simpa using this)
        have l3 : Le F1 F3 := (l1.trans st2.le).trans st3.le
        -- what follows the tests where nothing is added
        have next : ∀ {e4 : En} {F4 H4 : Hp} {A4 : List Addr} {out' : List Ev.D} {ws' : List V} {bs' : List Addr}, Sta X.K X.mg F4 H4 σ3 e4 A4 → Way X.K X.mg D out' ws' bs' F4 H4 A4 → Step A H F (D :: (bs' ++ A4)) H4 F4 → Le F1 F4 →
            PostG W σ A H F ((lcL vs (asgT (G.sub scope) tg) ft (fElt fe) (ds.drop (i + 1)) out' e4).bind fun (out, e2) => .ok (.val (.lst .own out), backE e1 e2 vs)) (OkE X.K X.mg σ A H F Q) → P (i + 1) H4 :=
          fun {e4 F4 H4 A4 out' ws' bs'} S4 w4 stt4 l4 post => by
            obtain ⟨A5, S5, sub5⟩ := S4.wipe vs
            rw [wp] at S5
            refine ⟨e4, F4, A5, out', ws', bs', S5, ⟨w4.at_, w4.rel, w4.nd, w4.ne, fun a z => ⟨fun q => (w4.dj a z).1 (sub5 a q), (w4.dj a z).2⟩⟩, stt4.less fun x z => ?_, l4, post⟩
            simp only [List.mem_cons, List.mem_append] at z ⊢
            rcases z with z | z | z
            · exact .inl z
            · exact .inr (.inl z)
            · exact .inr (.inr (sub5 x z))
        refine ⟨e2, F3, A3, S3, ?_⟩
        cases hb : ft e2 with
        | err _ _ _ => rw [hb] at post; exact ⟨post.no⟩
        | stuck => rw [hb] at post; exact post.elim
        | ok y =>
          obtain ⟨b, e4⟩ := y
          rw [hb] at post
          simp only [R.bind] at post
          intro H4 F4 A4 st4 S4
          obtain ⟨w4, _⟩ := w3.past (cs := []) (by simpa using st4)
          have stt4 : Step A H F (D :: (bs ++ A4)) H4 F4 := by
            have := st4.frame (D :: bs)
            exact stt3.trans (by simpa using this)
          have l4 : Le F1 F4 := l3.trans st4.le
          cases b with
          | false =>
            simp only [Bool.false_eq_true, if_false] at post ⊢
            exact next S4 w4 stt4 l4 post
          | true =>
            simp only [if_true] at post ⊢
            refine ⟨e4, F4, A4, S4, ?_⟩
            cases hv : fe e4 with
            | err _ _ _ => simp only [fElt, hv, R.bind] at post; exact ⟨post.no⟩
            | stuck => simp only [fElt, hv, R.bind] at post; exact post.elim
            | ok y =>
              obtain ⟨rv, e5⟩ := y
              simp only [fElt, hv, R.bind] at post
              intro u H5 F5 A5 as5 st5 S5 res5
              obtain ⟨w5, dj5⟩ := w4.past st5
              have stt5 : Step A H F (D :: (bs ++ (as5 ++ A5))) H5 F5 := by
                have := st5.frame (D :: bs)
                exact stt4.trans (by simpa using this)
              have has : ∀ a ∈ as5, a ∉ A5 := fun a z => by
                cases rv with
                | val d => exact (res5.2.2 a z).1
                | han i p => rw [res5.1] at z; exact absurd z (by simp)
              cases htk : take e5 rv with
              | err _ _ _ => exact (take_noerr htk).elim
              | stuck => rw [htk] at post; exact post.elim
              | ok y =>
                obtain ⟨d, e6⟩ := y
                rw [htk] at post
                simp only at post
                obtain ⟨F6, A6, as6, t6, S6, r6, n6, d6, i6, j6, u6⟩ := take_ok S5 res5 has htk
                obtain ⟨w6, _⟩ := w5.past (cs := []) (by simpa using u6)
                have hlen : out.length = ws.length := w6.rel.length
                by_cases hz : out.length < sizeLine
                · rw [if_pos hz] at post
                  refine ⟨ws, w6.at_, by rw [← hlen]; exact hz, ?_⟩
                  have l6 : Le F1 F6 := (l4.trans st5.le).trans u6.le
                  have nD6 : ∀ a ∈ as6, a ≠ D ∧ a ∉ bs := fun a z => ⟨fun q => dj5 D List.mem_cons_self (by rw [← q]; exact i6 a z), fun q => dj5 a (List.mem_cons_of_mem _ q) (i6 a z)⟩
                  have nDA : ∀ a ∈ A6, a ≠ D := fun a z q => (w6.dj D List.mem_cons_self).1 (by rw [← q]; exact z)
                  have wr := Step.write (B := D :: (bs ++ (as6 ++ A6))) (H := H5) (F := F6) (o := .lst (ws ++ [u])) (p := D) List.mem_cons_self
                  have stt6 : Step A H F (D :: (bs ++ (as6 ++ A6))) H5 F6 := by
                    have := t6.frame (D :: bs)
                    exact stt5.trans (by simpa using this)
                  have kp : ∀ a, a ≠ D → ∀ o, H5 a = some o → upd H5 D (.lst (ws ++ [u])) a = some o := fun a na o q => by rw [upd_ne na]; exact q
                  have sub6 : Le F6 (upd H5 D (.lst (ws ++ [u]))) := fun a o q => by
                    refine kp a (fun z => ?_) o (S6.sub a o q)
                    rw [z, (w6.dj D List.mem_cons_self).2] at q; cases q
                  refine next (out' := out ++ [d]) (ws' := ws ++ [u]) (bs' := bs ++ as6) (S6.past sub6 (Le.refl _) (fun a z o q => kp a (nDA a z) o q) S6.no) ⟨upd_same, ?_, ?_, ?_, ?_⟩ ((stt6.trans wr).less fun x z => by simpa [List.append_assoc] using z) l6 post
                  · refine rel_append (ReL.mono (Le.refl _) _ _ _ (fun a z o q => kp a (fun y => w6.ne (by rw [← y]; exact z)) o q) w6.rel) ?_
                    simp only [ReL]
                    exact ⟨u, [], as6, [], rfl, by simp, Rep.mono (Le.refl _) _ _ _ (fun a z o q => kp a (nD6 a z).1 o q) r6, rfl, rfl⟩
                  · exact List.nodup_append.mpr ⟨w6.nd, n6, fun a z b y q => (nD6 b y).2 (by rw [← q]; exact z)⟩
                  · intro z
                    rcases List.mem_append.mp z with z | z
                    · exact w6.ne z
                    · exact (nD6 D z).1 rfl
                  · intro a z
                    rcases List.mem_cons.mp z with z | z
                    · exact w6.dj a (by rw [z]; exact List.mem_cons_self)
                    · rcases List.mem_append.mp z with z | z
                      · exact w6.dj a (List.mem_cons_of_mem _ z)
                      · exact d6 a z
                · rw [if_neg hz] at post; exact post.elim
    · left
      have hie : i = ds.length := by omega
      subst hie
      refine ⟨hJ.stop H' F' l1 S'.sub, ?_⟩
      rw [List.drop_length] at post
      simp only [lcL, R.bind] at post
      have post : OkE X.K X.mg σ A H F Q (.val (.lst .own out), backE e1 e' vs) := post
      obtain ⟨A2, S2, sub2⟩ := S1.back hf l1 S'
      refine post (.ref D) H' F' A2 (D :: bs) (st.less fun x z => ?_) S2 ⟨?_, List.nodup_cons.mpr ⟨w.ne, w.nd⟩, fun a z => ⟨fun q => (w.dj a z).1 (sub2 a q), (w.dj a z).2⟩⟩
      · simp only [List.mem_cons, List.mem_append, List.cons_append] at z ⊢
        rcases z with z | z | z
        · exact .inl z
        · exact .inr (.inl z)
        · exact .inr (.inr (sub2 x z))
      · simp only [Rep]
        exact ⟨D, ws, bs, rfl, rfl, w.at_, w.rel⟩
  · simp only [hf] at post
    exact post.elim
/-- [elt for tg in iter if ..] -/
theorem sE_lc {elt tg iter : Expr} {ifs : List Expr} {scope : Scope} {pos : Pos} {fi : En → R (List Ev.D × En)} {fe : En → R (RV × En)} {ft : En → R (Bool × En)} (g : Good M cl G k W X) (hbl : blkC G.N G.sc scope (ownOf G.N scope) = true)
    (hi : PI X tg iter (tI X.K X.mg W fi)) (he : ∀ X', Good M cl (G.sub scope) k W0 X' → PE X' elt (tE X'.K X'.mg W0 fe)) (ht : ∀ X', Good M cl (G.sub scope) k W0 X' → PTs X' ifs (tT X'.K X'.mg W0 ft))
    (hs : ∀ x, foldedSetIterable iter X.env x = pure x) :
    PE X (.ListComp elt [⟨tg, iter, ifs, 0⟩] scope pos) (tE X.K X.mg W (fLc G scope tg fi ft fe)) :=
  PE.imp (pe_lc (te := tE X.K X.mg W0 fe) (tt := tT X.K X.mg W0 ft) (g := tG X.K X.mg (G.sub scope) W0 (asgT (G.sub scope) tg)) g.calm (by rw [g.N]; exact g.nd) hi (blkOk_by (by rw [g.N, g.sc]; exact hbl)) (fun s H C cs fp => sG (g.blk s H scope C cs fp) tg) (fun s H C cs fp => ht _ (g.blk s H scope C cs fp)) (fun s H C cs fp => he _ (g.blk s H scope C cs fp)) hs) fun σ H Q => lc_rd g
/-- name = [..] on one row -/
theorem sS_lc {i : Nat} {y : Str} {py : Pos} {elt tg iter : Expr} {ifs : List Expr} {scope : Scope} {pos spos : Pos} {fi : En → R (List Ev.D × En)} {fe : En → R (RV × En)} {ft : En → R (Bool × En)} (g : Good M cl G k W X) (hbl : blkC G.N G.sc scope (ownOf G.N scope) = true)
    (hy : X.N[i]? = some y) (hyl : X.env.scope.names.lookup y = some .local) (hsw : swapsWith (.ListComp elt [⟨tg, iter, ifs, 0⟩] scope pos) (some (.Name y py)) spos.line X.env = pure true)
    (hi : PI X tg iter (tI X.K X.mg W fi)) (he : ∀ X', Good M cl (G.sub scope) k W0 X' → PE X' elt (tE X'.K X'.mg W0 fe)) (ht : ∀ X', Good M cl (G.sub scope) k W0 X' → PTs X' ifs (tT X'.K X'.mg W0 ft))
    (hs : ∀ x, foldedSetIterable iter X.env x = pure x) :
    PS X (.Assign [.Name y py] (.ListComp elt [⟨tg, iter, ifs, 0⟩] scope pos) spos) (tAsg (tE X.K X.mg W (fLc G scope tg fi ft fe)) (gName i)) :=
  ⟨fun pins s σ H D I h => (ps_setLc (te := tE X.K X.mg W0 fe) (tt := tT X.K X.mg W0 ft) (g := tG X.K X.mg (G.sub scope) W0 (asgT (G.sub scope) tg)) g.calm (by rw [g.N]; exact g.nd) hy hyl hsw hi (blkOk_by (by rw [g.N, g.sc]; exact hbl)) (fun s H C cs fp => sG (g.blk s H scope C cs fp) tg) (fun s H C cs fp => ht _ (g.blk s H scope C cs fp)) (fun s H C cs fp => he _ (g.blk s H scope C cs fp)) hs).run pins s σ H D I (lc_rd g h)⟩
end
end Ev

set_option Elab.async false
set_option linter.all false
set_option maxRecDepth 100000
set_option maxHeartbeats 2000000
/-! Ev16: calls. -/
namespace Ev
open PySem L2

theorem star_cons {env : PySem.Env} {a : Expr} {r : List Expr} (h : noStar (a :: r) = true) : starEach (a :: r) env = (false, eval a env) :: starEach r env ∧ noStar r = true := by
  cases a <;> first | exact ⟨rfl, h⟩ | (simp [noStar] at h)
theorem star_any {env : PySem.Env} {pos : Pos} : ∀ {r : List Expr}, noStar r = true → (backTo pos (starEach r env)).any (·.1) = false
  | [], _ => rfl
  | a :: r, h => by
    obtain ⟨h1, h2⟩ := star_cons (env := env) h
    rw [h1]
    show (false || (backTo pos (starEach r env)).any (·.1)) = false
    rw [star_any h2]; rfl

section
variable {K : PySem.W.Frag} {mg : Str → Option Value} {F H : Hp} {σ : St}
theorem nodup_mid {pre a1 post : List Addr} (h : (pre ++ a1 ++ post).Nodup) : (pre ++ post).Nodup ∧ a1.Nodup ∧ (∀ a ∈ a1, a ∉ pre ++ post) := by
  obtain ⟨m1, m2, m3⟩ := List.nodup_append.mp h
  obtain ⟨k1, k2, k3⟩ := List.nodup_append.mp m1
  refine ⟨List.nodup_append.mpr ⟨k1, m2, fun a z b y => m3 a (List.mem_append_left _ z) b y⟩, k2, fun a z q => ?_⟩
  rcases List.mem_append.mp q with y | y
  · exact k3 a y a z rfl
  · exact m3 a (List.mem_append_right _ z) a y rfl
/-- arguments are lent -/
theorem lend_ok : ∀ {rvs : List RV} {e eR : En} {A A0 as : List Addr} {vs : List V} {ds : List D} {is : List (Option Nat)} {G : Hp}, EL K mg F H e σ A → A.Nodup → ResVs K mg F H σ A0 vs rvs as → Le F G → (∀ a ∈ as, ∀ o, H a = some o → G a = some o) → lend e rvs = some (ds, is, eR) →
    ∃ Ab Ar, EL K mg G H (ds.map some) (vs.map some) Ab ∧ EL K mg F H eR σ Ar ∧ (Ab ++ Ar).Nodup ∧ (∀ a ∈ Ab ++ Ar, a ∈ A) ∧
      ∀ (F2 H2 : Hp) (outs : List (Option D)) (Ab2 Ar2 : List Addr) (er e2 : En), EL K mg F2 H2 er σ Ar2 → EL K mg F2 H2 outs (vs.map some) Ab2 → (Ab2 ++ Ar2).Nodup → giveBack is outs er = some e2 → ∃ A2, EL K mg F2 H2 e2 σ A2 ∧ A2.Nodup ∧ ∀ a ∈ A2, a ∈ Ab2 ++ Ar2
  | [], e, eR, A, A0, as, vs, ds, is, G, h, nd, r, l, k, hl => by
    simp only [lend, Option.some.injEq, Prod.mk.injEq] at hl
    obtain ⟨e1, e2, e3⟩ := hl
    subst e1; subst e2; subst e3
    simp only [ResVs] at r
    obtain ⟨e1, e2⟩ := r
    subst e1; subst e2
    refine ⟨[], A, by simp [EL], h, by simpa using nd, fun a z => by simpa using z, fun F2 H2 outs Ab2 Ar2 er e2 q1 q2 q3 q4 => ?_⟩
    simp only [giveBack, Option.some.injEq] at q4
    subst q4
    exact ⟨Ar2, q1, (List.nodup_append.mp q3).2.1, fun a z => List.mem_append_right _ z⟩
  | .val d :: rvs, e, eR, A, A0, as, vs, ds, is, G, h, nd, r, l, k, hl => by
    simp only [lend] at hl
    split at hl
    · rename_i ds' is' e1 q
      simp only [Option.some.injEq, Prod.mk.injEq] at hl
      obtain ⟨x1, x2, x3⟩ := hl
      subst x1; subst x2; subst x3
      simp only [ResVs] at r
      obtain ⟨v, vr, a1, a2, ev, ea, _, h1, h2, dj⟩ := r
      subst ev; subst ea
      obtain ⟨Ab, Ar, w1, w2, w3, w4, w5⟩ := lend_ok h nd h2 l (fun a z => k a (List.mem_append_right _ z)) q
      have fz := Rep.freeze l d v a1 (fun a z => k a (List.mem_append_left _ z)) h1.1
      refine ⟨Ab, Ar, ?_, w2, w3, w4, fun F2 H2 outs Ab2 Ar2 er e2 q1 q2 q3 q4 => ?_⟩
      · simp only [List.map_cons, EL]
        exact ⟨v, vr.map some, [], Ab, rfl, rfl, Rep.mono (Le.refl G) _ _ _ (fun _ z => absurd z (by simp)) fz, w1⟩
      · cases outs with
        | nil => simp [EL] at q2
        | cons o outs =>
          simp only [giveBack] at q4
          cases o with
          | none =>
            simp only [List.map_cons, EL] at q2
            obtain ⟨o', r', er', q2⟩ := q2
            cases er'
            exact w5 F2 H2 outs Ab2 Ar2 er e2 q1 q2 q3 q4
          | some d2 =>
            simp only [List.map_cons, EL] at q2
            obtain ⟨v', r', b1, b2, er', eb, _, q2⟩ := q2
            cases er'
            subst eb
            have q3' : (b2 ++ Ar2).Nodup := by
              rw [List.append_assoc] at q3
              exact (List.nodup_append.mp q3).2.1
            obtain ⟨A2, z1, z2, z3⟩ := w5 F2 H2 outs b2 Ar2 er e2 q1 q2 q3' q4
            refine ⟨A2, z1, z2, fun a z => ?_⟩
            have := z3 a z
            simp only [List.mem_append] at this ⊢
            rcases this with y | y <;> simp [y]
    · cases hl
  | .han i [] :: rvs, e, eR, A, A0, as, vs, ds, is, G, h, nd, r, l, k, hl => by
    simp only [lend] at hl
    split at hl
    · rename_i d hd
      split at hl
      · rename_i ds' is' e1 q
        simp only [Option.some.injEq, Prod.mk.injEq] at hl
        obtain ⟨x1, x2, x3⟩ := hl
        subst x1; subst x2; subst x3
        simp only [ResVs] at r
        obtain ⟨v, vr, a1, a2, ev, ea, _, h1, h2, dj⟩ := r
        subst ev; subst ea
        obtain ⟨ea1, v0, hv0, hp⟩ := h1
        have hp : v = v0 := hp
        subst hp
        obtain ⟨pre, b1, post, q1, _, q3, q4⟩ := EL.drop (σ := σ) i h
        obtain ⟨v', hv', rp⟩ := q3 d hd
        rw [hv0] at hv'
        cases hv'
        have hr := q4 (some v)
        rw [set_self hv0] at hr
        rw [q1] at nd
        obtain ⟨n1, n2, n3⟩ := nodup_mid nd
        obtain ⟨Ab, Ar, w1, w2, w3, w4, w5⟩ := lend_ok hr n1 h2 l (fun a z => k a (List.mem_append_right _ z)) q
        refine ⟨b1 ++ Ab, Ar, ?_, w2, ?_, fun a z => ?_, fun F2 H2 outs Ab2 Ar2 er e2 q1' q2' q3' q4' => ?_⟩
        · simp only [List.map_cons, EL]
          exact ⟨v, vr.map some, b1, Ab, rfl, rfl, Rep.mono l _ _ _ (fun _ _ _ z => z) rp, w1⟩
        · rw [List.append_assoc]
          exact List.nodup_append.mpr ⟨n2, w3, fun a z b y e => n3 a z (by rw [e]; exact w4 b y)⟩
        · rw [q1]
          rw [List.append_assoc] at z
          rcases List.mem_append.mp z with z | z
          · simp [z]
          · have := w4 a z
            rcases List.mem_append.mp this with y | y <;> simp [y]
        · cases outs with
          | nil => simp [giveBack] at q4'
          | cons o outs =>
            cases o with
            | none => simp [giveBack] at q4'
            | some d2 =>
              simp only [giveBack] at q4'
              simp only [List.map_cons, EL] at q2'
              obtain ⟨v', r', c1, c2, er', eb, rp2, q2'⟩ := q2'
              cases er'
              subst eb
              have hi : i < er.length := by
                rw [q1'.length]
                exact (List.getElem?_eq_some_iff.mp hv0).1
              obtain ⟨pre2, b2, post2, z1, z2⟩ := EL.put q1' hi
              have z3 := z2 d2 v c1 rp2
              rw [set_self hv0] at z3
              rw [z1] at q3'
              have hnd : (c2 ++ (pre2 ++ c1 ++ post2)).Nodup := by
                rw [List.append_assoc] at q3'
                obtain ⟨m1, m2, m3⟩ := List.nodup_append.mp q3'
                obtain ⟨m4, m5, m6⟩ := List.nodup_append.mp m2
                obtain ⟨m7, m8, m9⟩ := nodup_mid m5
                obtain ⟨m10, m11, m12⟩ := List.nodup_append.mp m7
                refine List.nodup_append.mpr ⟨m4, List.nodup_append.mpr ⟨List.nodup_append.mpr ⟨m10, m1, fun a z b y e => m3 b y a (by simp [z]) e.symm⟩, m11, fun a z b y => ?_⟩, fun a z b y => ?_⟩
                · rcases List.mem_append.mp z with z | z
                  · exact m12 a z b y
                  · exact m3 a z b (by simp [y])
                · intro e
                  subst e
                  simp only [List.mem_append] at y
                  rcases y with (y | y) | y
                  · exact m6 a z a (by simp [y]) rfl
                  · exact m3 a y a (by simp [z]) rfl
                  · exact m6 a z a (by simp [y]) rfl
              obtain ⟨A2, y1, y2, y3⟩ := w5 F2 H2 outs c2 (pre2 ++ c1 ++ post2) (er.set i (some d2)) e2 z3 q2' hnd q4'
              refine ⟨A2, y1, y2, fun a z => ?_⟩
              have := y3 a z
              rw [z1]
              simp only [List.mem_append] at this ⊢
              rcases this with y | (y | y) | y <;> simp [y]
      · cases hl
    · cases hl
  | .han i (j :: p) :: rvs, e, eR, A, A0, as, vs, ds, is, G, h, nd, r, l, k, hl => by simp [lend] at hl
end

section
variable {M : Gb} {cl : Cl} {G : Cn} {k : Nat} {W : WX} {X : Cx}
theorem FnG.call {fa : Addr} {fd : FuncData} {ps : List Str} {f : Str} {pins : List (Addr × Obj)} {σ : St} {H : Hp} {s : Shared} {Q : VK} {us : List Value} {vs : List V} (g : Good M cl G k W X) (Fg : FnG X.prog X.w X.K X.mg X.base (L2.CX X.prog X.w) k fa fd ps (spC X.K X.mg cl f)) (hb : Binds X.K fd ps [])
    (I : Inv X pins σ H s) (r : Vals vs us) (h : spC X.K X.mg cl f vs H Q E0) : wpAny (model X.prog X.w) X.A (call (.ref fa) us) (EP X pins σ Q) X.xe s := by
  have hl : (us ++ []).length = ps.length := by rw [List.append_nil, ← r.length]; exact Fg.len _ _ _ _ h
  have bt := hb s us I.kIn hl
  rw [List.append_nil] at bt
  refine wpAny_call (codeAny_mono (Fg.run X.A X.stack s H ⟨us, []⟩ us vs Q E0 g.room g.guards I.env0 bt r h) fun r s' hq => ?_)
  cases r with
  | error e => exact passL pins σ H s e s' I hq
  | ok fl =>
    cases fl with
    | ret u => exact I.after hq
    | next => exact False.elim hq
    | brk => exact False.elim hq
    | cont => exact False.elim hq
/-- f(a, ..), f a def of the module -/
theorem sE_call {f : Str} {p pos : Pos} {a : Expr} {r : List Expr} {fa : En → R (List RV × En)} (g : Good M cl G k W X) (hn : noStar (a :: r) = true) (hg : G.glob f = true) (hd : M.defs.contains f = true) (ha : PA X (a :: r) (tA X.K X.mg W fa)) :
    PE X (.Call (.Name f p) (a :: r) [] pos) (tE X.K X.mg W fun e => (fa e).bind fun (vs, e1) => callF cl f vs e1) := by
  obtain ⟨ad, fd, ps, hm, hk, hb, Fg⟩ := g.calls f hd
  obtain ⟨n1, n2⟩ := g.mod.nm f (.inr (.inl hd))
  obtain ⟨s1, s2⟩ := star_cons (env := X.env) hn
  refine ⟨fun pins s σ H Q I ⟨e, F, A, S, post⟩ => ?_⟩
  refine wpAny_Call_Name_kw (ld_glob I (g.glob hg) hm ?_ n1)
  refine PySem.W.callWith_K (h₀ := X.base) I.ok.mod.kin hk ?_ s1 (star_any s2)
  refine seqA (T := []) ha I S nilA post fun rvs e1 h1 vs us s1 H1 F1 A1 as1 I1 rv st1 st01 S1 res1 post => ⟨I1.kIn, ?_⟩
  have st01 : Step A H F (as1 ++ A1) H1 F1 := by simpa using st01
  refine FnG.call (f := f) g Fg hb I1 rv ?_
  unfold callF at post
  cases hl : lend e1 rvs with
  | none => simp only [hl] at post; exact post.elim
  | some y =>
    obtain ⟨ds, is, eR⟩ := y
    simp only [hl] at post
    have dj1 : ∀ a ∈ as1, a ∉ A1 ∧ F1 a = none := by
      clear post h1
      have : ∀ (rvs : List RV) (vs : List V) (as : List Addr), ResVs X.K X.mg F1 H1 σ A1 vs rvs as → ∀ a ∈ as, a ∉ A1 ∧ F1 a = none := by
        intro rvs
        induction rvs with
        | nil => intro vs as h a z; simp only [ResVs] at h; rw [h.2] at z; exact absurd z (by simp)
        | cons rv rvs ih =>
          intro vs as h a z
          simp only [ResVs] at h
          obtain ⟨v, r, a1, a2, e1, e2, fl, h1, h2, dj⟩ := h
          rw [e2] at z
          rcases List.mem_append.mp z with z | z
          · cases rv with
            | val d => exact h1.2.2 a z
            | han i p => rw [h1.1] at z; exact absurd z (by simp)
          · exact ih r a2 h2 a z
      exact this rvs vs as1 res1
    have fl := frzAt_le (as := as1) S1.sub
    obtain ⟨Ab, Ar, w1, w2, w3, w4, w5⟩ := lend_ok S1.el S1.nd res1 fl (fun a z o ho => by rw [frzAt_in z]; exact ho) hl
    obtain ⟨nb, nr, nbr⟩ := List.nodup_append.mp w3
    have fzn : ∀ a ∈ A1, frzAt F1 H1 as1 a = none := fun a z => by rw [frzAt_out fun q => (dj1 a q).1 z]; exact S1.no a z
    refine ⟨ds, frzAt F1 H1 as1, Ab, ⟨frzAt_sub S1.sub, w1, nb, fun a z => fzn a (w4 a (List.mem_append_left _ z))⟩, ?_⟩
    cases hc : cl f ds with
    | err _ _ _ => rw [hc] at post; exact post.no.elim
    | stuck => rw [hc] at post; exact post.elim
    | ok y =>
      obtain ⟨d, outs⟩ := y
      rw [hc] at post
      simp only [R.bind] at post
      intro v H2 F2 Ab2 asr st2 S2 rp nd dj
      cases hgb : giveBack is outs eR with
      | none => simp only [hgb] at post; exact post.elim
      | some e2 =>
        simp only [hgb] at post
        have liveA : ∀ a ∈ Ar, H1 a ≠ none := fun a z => S1.live (w4 a (List.mem_append_right _ z))
        have outA : ∀ a ∈ Ar, a ∉ asr ++ Ab2 := fun a z q => by
          rcases st2.own a q with y | y
          · exact nbr a y a z rfl
          · exact liveA a z y
        have elr : EL X.K X.mg F2 H2 eR σ Ar := EL.mono (fl.trans st2.le) eR σ Ar (fun a z o ho => st2.keep a o ho fun y => nbr a y a z rfl) w2
        have hnd : (Ab2 ++ Ar).Nodup := List.nodup_append.mpr ⟨S2.nd, nr, fun a z b y e => outA b y (by rw [← e]; exact List.mem_append_right _ z)⟩
        obtain ⟨A2, z1, z2, z3⟩ := w5 F2 H2 outs Ab2 Ar eR e2 elr S2.el hnd hgb
        have noA : ∀ a ∈ Ar, F2 a = none := fun a z => by
          cases q : F2 a with
          | none => rfl
          | some o =>
            rcases st2.fr a (by rw [q]; simp) with y | y | y
            · exact absurd (fzn a (w4 a (List.mem_append_right _ z))) y
            · exact absurd rfl (nbr a y a z)
            · exact absurd y (liveA a z)
        have fz : Step (as1 ++ A1) H1 F1 (Ar ++ Ab) H1 (frzAt F1 H1 as1) := Step.freeze S1.sub (fun a z => List.mem_append_left _ z) fun a z => List.mem_append_right _ (w4 a (by
          rcases List.mem_append.mp z with z | z <;> simp [z]))
        have stt := (st01.trans fz).trans (st2.frame Ar)
        refine (show OkE X.K X.mg σ A H F Q (.val d, e2) from post) v H2 F2 A2 asr (stt.less fun x z => ?_) ⟨S2.sub, z1, z2, fun a z => ?_⟩ ⟨rp, nd, fun a z => ⟨fun q => ?_, (dj a z).2⟩⟩
        · simp only [List.mem_append] at z ⊢
          rcases z with z | z
          · exact .inr (.inl z)
          · have := z3 x z
            simp only [List.mem_append] at this
            rcases this with y | y
            · exact .inr (.inr y)
            · exact .inl y
        · rcases List.mem_append.mp (z3 a z) with y | y
          · exact S2.no a y
          · exact noA a y
        · rcases List.mem_append.mp (z3 a q) with y | y
          · exact (dj a z).1 y
          · exact outA a y (List.mem_append_left _ z)
/-- a built-in function's rule by data -/
def rBlt (K : PySem.W.Frag) (mg : Str → Option Value) (b : Bl) : List V → Hp → VK → Prop := fun vs H Q => ∃ F ds d, Le F H ∧ RelD K mg F H ds vs ∧ callB b ds = some d ∧ Gv K mg H F d Q
theorem call_blt {b : Bl} (g : Good M cl G k W X) : CallR X (bval b) (rBlt X.K X.mg b) := by
  intro pins s σ H xs us Q I r ⟨F, ds, d, sub, h, e, gv⟩
  exact callB_ok g.room g.guards g.calm I r sub h e gv
theorem pe_blt {b : Bl} {f : Str} {p pos : Pos} {a : Expr} {r : List Expr} {t : TA} (g : Good M cl G k W X) (hn : noStar (a :: r) = true) (hg : G.glob f = true) (hf : M.free.contains f = true) (hb : bltOf f = some b) (ha : PA X (a :: r) t) :
    PE X (.Call (.Name f p) (a :: r) [] pos) (tCB (rBlt X.K X.mg b) t) := by
  obtain ⟨n1, n2⟩ := g.mod.nm f (.inr (.inr hf))
  obtain ⟨s1, s2⟩ := star_cons (env := X.env) hn
  have hm := g.mod.free f hf
  have hv := boot_ok hb
  have hc := call_blt (b := b) g
  cases b <;> first
    | exact pe_callB hc (g.glob hg) hm hv ha n2 n1 s1 (star_any s2)
    | exact pe_callTy hc (g.glob hg) hm hv ha n2 n1 s1 (star_any s2)
end
end Ev

set_option Elab.async false
set_option linter.all false
set_option maxRecDepth 100000
set_option maxHeartbeats 2000000
/-! Ev17: what is walked. -/
namespace Ev
open PySem L2

section
variable {K : PySem.W.Frag} {mg : Str → Option Value} {F H : Hp} {σ : St} {e e' : En} {A as : List Addr} {v : V} {rv : RV} {d : D}
theorem takeF_noerr {c : Str} {fs : List (Str × D)} {e1 : En} (h : takeF e rv = .err c fs e1) : False := by
  unfold takeF at h
  cases q : take e rv with
  | ok y => rw [q] at h; cases h
  | err _ _ _ => exact take_noerr q
  | stuck => rw [q] at h; cases h
theorem takeF_ok (S : Sta K mg F H σ e A) (h : ResV K mg F H σ A v rv as) (ht : takeF e rv = .ok (d, e')) :
    ∃ F' A', Step (as ++ A) H F A' H F' ∧ Sta K mg F' H σ e' A' ∧ Rep K mg F' H d v [] := by
  unfold takeF at ht
  cases q : take e rv with
  | err _ _ _ => exact (take_noerr q).elim
  | stuck => rw [q] at ht; cases ht
  | ok y =>
    obtain ⟨d1, e1⟩ := y
    rw [q] at ht
    simp only [R.bind, R.ok.injEq, Prod.mk.injEq] at ht
    obtain ⟨x1, x2⟩ := ht
    subst x1; subst x2
    have ha : ∀ a ∈ as, a ∉ A := fun a z => by
      cases rv with
      | val d => exact (h.2.2 a z).1
      | han i p => rw [h.1] at z; exact absurd z (by simp)
    obtain ⟨F1, A1, b1, s1, S1, r1, n1, d1', i1, j1, t1⟩ := take_ok S h ha q
    have fz : Step (b1 ++ A1) H F1 A1 H (frzAt F1 H b1) := Step.freeze S1.sub (fun a z => List.mem_append_left _ z) fun a z => List.mem_append_right _ z
    have S' : Sta K mg (frzAt F1 H b1) H σ e1 A1 := S1.past (frzAt_sub S1.sub) (frzAt_le S1.sub) (fun _ _ _ q => q) fun a z => by
      rw [frzAt_out fun q => (d1' a q).1 z]; exact S1.no a z
    exact ⟨_, A1, s1.trans fz, S', Rep.freeze (frzAt_le (as := b1) S1.sub) _ _ _ (fun a z o q => by rw [frzAt_in z]; exact q) r1⟩
theorem rep_lstF {m : Mk} {ds : List D} (h : Rep K mg F H (.lst m ds) v []) : ∃ a vs, v = .ref a ∧ SqL K F a vs ∧ ReL K mg F H ds vs [] := by
  cases m with
  | own =>
    simp only [Rep] at h
    obtain ⟨a, vs, bs, _, e, _⟩ := h
    cases e
  | fro =>
    simp only [Rep] at h
    obtain ⟨_, a, vs, ev, hs, hr⟩ := h
    exact ⟨a, vs, ev, .inl (.inl hs), hr⟩
  | ext =>
    simp only [Rep] at h
    obtain ⟨_, a, vs, ev, hs, hr⟩ := h
    exact ⟨a, vs, ev, hs, hr⟩
end

section
variable {M : Gb} {cl : Cl} {G : Cn} {k : Nat} {W : WX} {X : Cx} {tg : Expr}
theorem it_list {pins : List (Addr × Obj)} {σ : St} {H : Hp} {s : Shared} {a : Addr} {xs : List V} {RI : It → Hp → Prop} {E : Value → Shared → Prop} (I : Inv X pins σ H s) (hq : SqL X.K H a xs) (q : RI (Itl X.K a) H) :
    wpAny (model X.prog X.w) X.A (pyIter (.ref a)) (PIE X pins σ tg RI) E s := by
  obtain ⟨its, _, p, _⟩ := I.list hq
  refine wpAny_pyIter_list p.isList ⟨s.heap.objs.size, [s.heap.objs.size], _, _, H, rfl, ?_, turn_list a _, ⟨_, Heap.get?_push_size _ rfl, rfl, rfl⟩, fun b hb => ?_, q⟩
  · exact I.kept (t' := s.toks) fun b o e => Heap.get?_push_of_some _ e
  · rw [List.mem_singleton.mp hb]
    exact I.fpOk (Nat.le_refl _) (I.hok.fresh (Nat.le_refl _))
theorem it_tup {pins : List (Addr × Obj)} {σ : St} {H : Hp} {s : Shared} {a : Addr} {xs : List V} {RI : It → Hp → Prop} {E : Value → Shared → Prop} (I : Inv X pins σ H s) (hq : SqT X.K H a xs) (q : RI (Itt X.K a) H) :
    wpAny (model X.prog X.w) X.A (pyIter (.ref a)) (PIE X pins σ tg RI) E s := by
  obtain ⟨its, _, p, _⟩ := I.tuple hq
  refine wpAny_pyIter_tuple (show s.heap.IsTuple a its.toArray from p) ⟨s.heap.objs.size, [s.heap.objs.size], _, _, H, rfl, ?_, turn_tuple a _, ⟨_, Heap.get?_push_size _ rfl, rfl, rfl⟩, fun b hb => ?_, q⟩
  · exact I.kept (t' := s.toks) fun b o e => Heap.get?_push_of_some _ e
  · rw [List.mem_singleton.mp hb]
    exact I.fpOk (Nat.le_refl _) (I.hok.fresh (Nat.le_refl _))
abbrev fWalk (f : En → R (RV × En)) : En → R (List D × En) := fun e => (f e).bind fun (v, e1) => (takeF e1 v).bind fun (d, e2) => match d with
    | .tup ds => .ok (ds, e2)
    | .lst _ ds => .ok (ds, e2)
    | _ => .stuck
/-- a list or a tuple -/
theorem sW {a : Expr} {f : En → R (RV × En)} (ha : PE X a (tE X.K X.mg W f)) : PI X tg a (tI X.K X.mg W (fWalk f)) := by
  refine ⟨fun pins s σ H RI I ⟨e, F, A, S, post⟩ => ?_⟩
  refine seqE (T := []) ha I S nilA post fun rv e1 h1 v u s1 H1 F1 A1 as1 I1 r1 st1 st01 S1 res1 post => ?_
  cases ht : takeF e1 rv with
  | err _ _ _ => exact (takeF_noerr ht).elim
  | stuck => simp only [ht, R.bind] at post; exact post.elim
  | ok y =>
    obtain ⟨d, e2⟩ := y
    simp only [ht, R.bind] at post
    obtain ⟨F2, A2, s2, S2, r2⟩ := takeF_ok S1 res1 ht
    have st2 : Step A H F A2 H1 F2 := (show Step A H F (as1 ++ A1) H1 F1 by simpa using st01).trans s2
    cases d <;> first | exact post.elim | skip
    · have post : OkI X.K X.mg σ A H F RI _ := post
      obtain ⟨p, vs, ev, hs, hr⟩ := rep_tup r2
      subst ev
      cases r1
      exact it_tup I1 (S2.sub.seqT hs) (post _ H1 F2 A2 st2 S2 (itok_tup hs hr))
    · have post : OkI X.K X.mg σ A H F RI _ := post
      obtain ⟨p, vs, ev, hs, hr⟩ := rep_lstF r2
      subst ev
      cases r1
      exact it_list I1 (S2.sub.seqL hs) (post _ H1 F2 A2 st2 S2 (itok_lst hs hr))
theorem rg_ok {j : Int} (h : rgOk j = true) : -(2 ^ 62) ≤ j ∧ j < 2 ^ 62 := by
  simp only [rgOk, Bool.and_eq_true, decide_eq_true_eq] at h
  exact h
theorem sR1 {a : Expr} {p pos : Pos} {f : En → R (RV × En)} (g : Good M cl G k W X) (hn : noStar [a] = true) (hg : G.glob "range" = true) (hf : M.free.contains "range" = true) (ha : PE X a (tE X.K X.mg W f)) :
    PI X tg (.Call (.Name "range" p) [a] [] pos) (tI X.K X.mg W fun e => (f e).bind fun (v, e1) => match content e1 v with | some (.int j) => if rgOk j then .ok (rgD 0 j.toNat, e1) else .stuck | _ => .stuck) := by
  obtain ⟨s1, _⟩ := star_cons (env := X.env) hn
  refine ⟨fun pins s σ H R I ⟨e, F, A, S, post⟩ => (pi_range1 (g.glob hg) (g.mod.free _ hf) (pa_cons ha pa_nil s1) s1).run pins s σ H R I ?_⟩
  refine tE_of (T := []) S nilA post fun rv e1 h1 v H1 F1 A1 as1 st1 st01 S1 res1 post => ?_
  cases ca : content e1 rv with
  | none => simp only [ca] at post; exact post.elim
  | some x =>
    simp only [ca] at post
    cases x <;> first | exact post.elim | skip
    rename_i j
    obtain ⟨a1, q1, _⟩ := ResV.content S1 res1 ca
    simp only [Rep] at q1
    by_cases hj : rgOk j = true
    · simp only [hj, if_true] at post
      have st2 : Step A H F A1 H1 F1 := (show Step A H F (as1 ++ A1) H1 F1 by simpa using st01).less fun x z => List.mem_append_right _ z
      exact ⟨j, by rw [q1.1], (rg_ok hj).1, (rg_ok hj).2, post _ H1 F1 A1 st2 S1 (itok_rng 0 j.toNat)⟩
    · simp only [hj] at post; exact post.elim
theorem sR2 {a b : Expr} {p pos : Pos} {f fb : En → R (RV × En)} (g : Good M cl G k W X) (hn : noStar [a, b] = true) (hg : G.glob "range" = true) (hf : M.free.contains "range" = true) (ha : PE X a (tE X.K X.mg W f)) (hb : PE X b (tE X.K X.mg W fb)) (ga : ∀ e v e', f e = .ok (v, e') → flat v = true) :
    PI X tg (.Call (.Name "range" p) [a, b] [] pos) (tI X.K X.mg W fun e => (f e).bind fun (v, e1) => (fb e1).bind fun (w, e2) => match content e2 v, content e2 w with
          | some (.int i), some (.int j) => if rgOk i && rgOk j then .ok (rgD i (j - i).toNat, e2) else .stuck
          | _, _ => .stuck) := by
  obtain ⟨s1, n2⟩ := star_cons (env := X.env) hn
  obtain ⟨s2, _⟩ := star_cons (env := X.env) n2
  refine ⟨fun pins s σ H R I ⟨e, F, A, S, post⟩ => (pi_range2 (g.glob hg) (g.mod.free _ hf) (pa_cons ha (pa_cons hb pa_nil s2) s1) (by rw [s1, s2]; rfl) (by rw [s2]; rfl)).run pins s σ H R I ?_⟩
  refine tE_of (T := []) S nilA post fun rv e1 h1 v H1 F1 A1 as1 st1 st01 S1 res1 post => ?_
  refine tE_of (T := as1) S1 (by simpa using st01) post fun rw e2 h2 w H2 F2 A2 as2 st2 st02 S2 res2 post => ?_
  obtain ⟨res1', _⟩ := res1.past (ga _ _ _ h1) st2
  cases ca : content e2 rv with
  | none => simp only [ca] at post; exact post.elim
  | some x =>
    cases cb : content e2 rw with
    | none => simp only [ca, cb] at post; cases x <;> exact post.elim
    | some y =>
      simp only [ca, cb] at post
      cases x <;> first | exact post.elim | skip
      rename_i i
      cases y <;> first | exact post.elim | skip
      rename_i j
      have post : PostG W σ A H F (if (rgOk i && rgOk j) = true then .ok (rgD i (j - i).toNat, e2) else .stuck) (OkI X.K X.mg σ A H F R) := post
      obtain ⟨a1, q1, _⟩ := ResV.content S2 res1' ca
      obtain ⟨a2, q2, _⟩ := ResV.content S2 res2 cb
      simp only [Rep] at q1 q2
      by_cases hj : (rgOk i && rgOk j) = true
      · rw [if_pos hj] at post
        rw [Bool.and_eq_true] at hj
        have st3 : Step A H F A2 H2 F2 := st02.less fun x z => by simp [z]
        exact ⟨i, j, by rw [q1.1, q2.1], ⟨(rg_ok hj.1).1, (rg_ok hj.1).2, (rg_ok hj.2).1, (rg_ok hj.2).2⟩, post _ H2 F2 A2 st3 S2 (itok_rng i _)⟩
      · rw [if_neg hj] at post; exact post.elim
end
end Ev

set_option Elab.async false
set_option linter.all false
set_option maxRecDepth 100000
set_option maxHeartbeats 4000000
/-! EvR: t[::-1] of a tuple. -/
namespace Ev
open PySem L2 PySem.Spec
open PyProof.Rows (subscriptTail tail_any slicePart_none slicePart_int tupleItemsOf_ slot_tuple_getitem entry_tuple_getitem args_tuple_getitem IsTup Subscript_)
open HT

section
variable {prog : Program} {w : World} {A : Around} {E : Value → Shared → Prop} {s : Shared}
theorem rev_places (n : Nat) : Builtin.Slice.slicePlaces ((n : Int) - 1) (-1) (-1) = n := by
  unfold Builtin.Slice.slicePlaces
  have h1 : ¬ ((-1 : Int) > 0) := by omega
  simp only [h1, if_false]
  by_cases h : (n : Int) - 1 > -1
  · simp only [h, if_true]
    have e : ((n : Int) - 1 - -1 - 1) / (- -1) = (n : Int) - 1 := by
      rw [show (- -1 : Int) = 1 by decide, Int.ediv_one]; omega
    rw [e]; omega
  · simp only [h, if_false]; omega
theorem rev_applied {sl : Addr} {n : Nat} {t : Tok} {Q : Int × Int × Nat → Shared → Prop} (hs : s.heap.IsSliceOf sl .none .none (.int (-1) t)) (h : Q ((n : Int) - 1, -1, n) s) :
    wpAny (model prog w) A (Builtin.Slice.sliceApplied (.ref sl) (pure (n : Int))) Q E s := by
  obtain ⟨os, hos, hcs, hds⟩ := id hs
  unfold Builtin.Slice.sliceApplied
  unfold Builtin.Slice.sliceFields
  refine wpAny_bind ?_
  refine wpAny_bind (wpAny_field hos hds (x := .none) rfl ?_)
  refine wpAny_bind (wpAny_field hos hds (x := .none) rfl ?_)
  refine wpAny_bind (wpAny_field hos hds (x := .int (-1) t) rfl (wpAny_pure ?_))
  refine wpAny_bind (slicePart_int ?_)
  show wpAny _ _ (if ((-1 : Int) == 0) = true then _ else _) _ _ s
  rw [if_neg (by decide)]
  refine wpAny_bind (slicePart_none (wpAny_bind (slicePart_none (wpAny_bind (wpAny_pure ?_)))))
  show wpAny _ _ (pure (((n : Int) - 1), (-1 : Int), Builtin.Slice.slicePlaces ((n : Int) - 1) (-1) (-1))) _ _ s
  rw [rev_places]
  exact wpAny_pure h
theorem rev_pick (xs : Array Value) : ((List.range xs.size).filterMap fun (k : Nat) => xs[(((xs.size : Int) - 1) + (k : Int) * (-1)).toNat]?).toArray = xs.toList.reverse.toArray := by
  have e : (fun (k : Nat) => xs[(((xs.size : Int) - 1) + (k : Int) * (-1)).toNat]?) = (xs[·]?) ∘ fun k => xs.size - 1 - k := by
    funext k
    have : (((xs.size : Int) - 1) + (k : Int) * (-1)).toNat = xs.size - 1 - k := by omega
    rw [this]; rfl
  rw [e, ← List.filterMap_map, PySem.W.krv_range, List.filterMap_reverse, PySem.W.krv_all]
theorem getItem_rev {t sl : Addr} {items : Array Value} {tk : Tok} {Q : Value → Shared → Prop} (ht : IsTup s.heap t items) (hs : s.heap.IsSliceOf sl .none .none (.int (-1) tk)) (hsz : items.size ≤ sizeLine)
    (h : Q (.ref s.heap.objs.size) { s with heap := s.heap.push { cls := .type "tuple", data := .seq items.toList.reverse.toArray } }) : wpAny (model prog w) A (getItem (.ref t) (.ref sl)) Q E s := by
  obtain ⟨os, hos, hcs, hds⟩ := id hs
  have hT : s.TypeIs (.ref sl) "slice" := ⟨os, hos, hcs⟩
  unfold getItem
  try with_reducible refine wpAny_holding ?_
  first | refine wpAny_bind (wpAny_pure ?_) | skip
  refine wpAny_bind (wpAny_sequenceKey ht.typeIs (by decide) ?_)
  refine wpAny_bind (wpAny_callSpecial?_slot (name := Str.ofString "__getitem__") ht.typeIs slot_tuple_getitem (wpAny_call_entry slot_tuple_getitem ht.typeIs entry_tuple_getitem ?_ (args_tuple_getitem _ _)))
  show wpAny _ _ (Builtin.Tuple.tupleItemsOf (.ref t) >>= _) _ _ s
  refine wpAny_bind (tupleItemsOf_ ht (wpAny_bind (wpAny_typeOf hT ?_)))
  rw [if_pos (by decide)]
  refine wpAny_bind (rev_applied hs ?_)
  have hno : ¬ ((((items.size : Int) - 1) == 0 && (-1 : Int) == 1 && items.size == items.size) = true) := by
    intro q
    rw [show ((-1 : Int) == 1) = false from rfl, Bool.and_false, Bool.false_and] at q
    cases q
  show wpAny _ _ (if (((items.size : Int) - 1) == 0 && (-1 : Int) == 1 && items.size == items.size) = true then _ else _) _ _ s
  rw [if_neg hno, rev_pick]
  have hz : sizeOk (.seq items.toList.reverse.toArray) := by
    show items.toList.reverse.toArray.size ≤ sizeLine
    simpa using hsz
  first
    | exact wpAny_bind (m := Builtin.Tuple.tupleExact _) (wpAny_newObj_type (wpAny_pure ⟨_, rfl, wpAny_pure h⟩) hz)
    | exact wpAny_bind (m := Builtin.Tuple.tupleExact _) (wpAny_newObj_type (wpAny_bind (wpAny_pure (wpAny_pure ⟨_, rfl, wpAny_pure h⟩))) hz)
    | exact wpAny_bind (wpAny_bind (m := Builtin.Tuple.tupleExact _) (wpAny_newObj_type (wpAny_pure (wpAny_pure ⟨_, rfl, wpAny_pure h⟩)) hz))
    | exact wpAny_bind (wpAny_bind (m := Builtin.Tuple.tupleExact _) (wpAny_newObj_type (wpAny_pure ⟨_, rfl, wpAny_pure h⟩) hz))
end
section
variable {X : Cx}
/-- x[::-1] -/
def tRevA (K : PySem.W.Frag) (te : TE) : TE := fun σ H Q => te σ H fun x H1 => ∃ a xs, x = .ref a ∧ ((SqL K H1 a xs ∧ ∀ p, H1 p = none → Q (.ref p) (upd H1 p (.lst xs.reverse))) ∨ (SqT K H1 a xs ∧ ∀ p, H1 p = none → Q (.ref p) (upd H1 p (.tup xs.reverse))))
theorem pe_revA {e : Expr} {te : TE} {kk : Nat} {p1 p2 p3 pos : Pos} (he : PE X e te) : PE X (.Subscript e (.Slice none none (some (.UnaryOp .USub (.Constant (.int 1) kk p1) p2)) p3) pos) (tRevA X.K te) := by
  refine ⟨fun pins s σ H Q I h => Subscript_ (thn (he.run pins s σ H _ I h) ?_)⟩
  rintro v s1 ⟨x, H1, I1, r1, a, xs, rfl, hx⟩
  cases r1
  have step : PO X (some (.UnaryOp .USub (.Constant (.int 1) kk p1) p2)) (tPart (tUn (rU fun i => .int (-i)) (tC (.int 1)))) := po_some (pe_un un_neg pe_int)
  refine wpAny_Slice (thn (po_none.run pins s1 σ H1 (fun o H2 => o = none ∧ H2 = H1) I1 ⟨rfl, rfl⟩) ?_)
  rintro vl s2 ⟨_, _, I2, pl, rfl, rfl⟩
  refine thn (po_none.run pins s2 σ _ (fun o H3 => o = none ∧ H3 = _) I2 ⟨rfl, rfl⟩) ?_
  rintro vu s3 ⟨_, _, I3, pu, rfl, rfl⟩
  refine thn (step.run pins s3 σ _ (fun o H4 => o = some (-1) ∧ H4 = _) I3 ⟨1, rfl, -1, rfl, rfl, rfl⟩) ?_
  rintro vs s4 ⟨_, H4, I4, ps, rfl, rfl⟩
  have I5 : Inv X pins σ H4 { s4 with heap := s4.heap.push { cls := .type "slice", data := .fields #[vl, vu, vs] } } := I4.kept (t' := s4.toks) fun b ob q => Heap.get?_push_of_some _ q
  show wpAny (model X.prog X.w) X.A (subscriptTail e (.Slice none none (some (.UnaryOp .USub (.Constant (.int 1) kk p1) p2)) p3) (.ref a) (.ref s4.heap.objs.size)) (EP X pins σ Q) X.xe { s4 with heap := s4.heap.push { cls := .type "slice", data := .fields #[vl, vu, vs] } }
  have hsl := Heap.IsSliceOf.new s4.heap vl vu vs
  rcases hx with ⟨hx, q⟩ | ⟨hx, q⟩
  · obtain ⟨its, r, ht, hz⟩ := I5.list hx
    refine tail_any (ops := [.ref a, .ref s4.heap.objs.size]) ht.isList.typeIs PySem.slot_list_getitem.lookup (wpAny_getItem_list_slice ht.isList hsl pl pu ps (by decide) ?_ ?_) (by with_unfolding_all rfl)
    · rw [PySem.W.krv_pick]
      refine ⟨.ref _, _, I5.laid (t' := s4.toks) (o := .lst xs.reverse) (fun b ob q => Heap.get?_push_of_some _ q) (Nat.le_refl _) ?_, rfl, q _ (I5.hok.fresh (Nat.le_refl _))⟩
      exact ⟨by rw [List.length_reverse]; exact hz, _, 0, r.reverse, Heap.get?_push_size _ rfl⟩
    · rw [List.size_toArray, ← r.length]; exact hz
  · obtain ⟨its, r, ht, hz⟩ := I5.tuple hx
    cases pl
    cases pu
    cases ps
    refine tail_any (ops := [.ref a, .ref s4.heap.objs.size]) ht.typeIs slot_tuple_getitem.lookup (getItem_rev ht hsl ?_ ?_) (by with_unfolding_all rfl)
    · rw [List.size_toArray, ← r.length]; exact hz
    · refine ⟨.ref _, _, I5.laid (t' := s4.toks) (o := .tup xs.reverse) (fun b ob q => Heap.get?_push_of_some _ q) (Nat.le_refl _) ?_, rfl, q _ (I5.hok.fresh (Nat.le_refl _))⟩
      refine ⟨by rw [List.length_reverse]; exact hz, its.reverse, r.reverse, ⟨_, Heap.get?_push_size _ rfl, rfl, 0, ?_⟩⟩
      simp
end
end Ev

set_option Elab.async false
set_option linter.all false
set_option maxRecDepth 100000
set_option maxHeartbeats 4000000
/-! EvT: enumerate over a tuple. -/
namespace Ev
open PySem L2 PySem.Spec
open AutoSeq1 (wpAny_loadPart')
open PyProof.Rows (Call_ boot_enumerate)

section
variable {prog : Program} {w : World} {A : Around} {E : Value → Shared → Prop} {s : Shared}
theorem tupIter_next {it t : Addr} {i : Nat} {items : Array Value} {x : Value} {Q : Value → Shared → Prop} (hit : s.heap.IsTupleIter it t i) (ht : s.heap.IsTuple t items) (hx : items[i]? = some x)
    (hQ : ∀ h', h'.IsTupleIter it t (i + 1) → Heap.SameBut it s.heap h' → Q x { s with heap := h' }) : wpAny (model prog w) A (Builtin.SmallTypes.nextOf (.ref it)) Q E s := by
  obtain ⟨o, ho, hc, hd⟩ := id hit
  obtain ⟨ot, hot, _, n, hdt⟩ := ht
  unfold Builtin.SmallTypes.nextOf
  refine wpAny_bind (wpAny_callSpecial?_slot (name := Str.ofString "__next__") hit.typeIs F.slot_tuple_iterator_next (wpAny_call_entry F.slot_tuple_iterator_next hit.typeIs F.entry_tuple_iterator_next ?_ (F.args_tuple_iterator_next_1 _)))
  refine (show wpAny (model prog w) _ (field (.ref it) 0 >>= _) _ _ s from wpAny_bind (wpAny_field ho hd (x := .ref t) rfl ?_))
  refine (show wpAny (model prog w) _ (if (Value.ref t == Value.none) = true then _ else _) _ _ s from ?_)
  rw [if_neg (show ¬ (Value.ref t == Value.none) = true from Bool.false_ne_true)]
  refine (show wpAny (model prog w) _ (field (.ref it) 1 >>= _) _ _ s from wpAny_bind (wpAny_field ho hd (x := .int i 0) rfl ?_))
  refine (show wpAny (model prog w) _ (seqItems? (.ref t) >>= _) _ _ s from wpAny_bind (wpAny_seqItems hot hdt ?_))
  simp only [hx, Int.toNat_natCast]
  refine wpAny_bind (wpAny_setField ho hd (by simp) (wpAny_pure ⟨x, rfl, wpAny_pure (hQ _ ⟨_, Heap.get?_update_self _ ho (Obj.isFreed_of_fields (Obj.data_mapFields hd _)), (Obj.cls_mapFields ..).trans hc, ?_⟩ (Heap.SameBut.update ..))⟩))
  rw [Obj.data_mapFields hd]
  simp [rawInt]
theorem tupIter_end {it t : Addr} {i : Nat} {items : Array Value} {Q : Value → Shared → Prop} (hh : A.handled = none) (hit : s.heap.IsTupleIter it t i) (ht : s.heap.IsTuple t items) (hx : items[i]? = none)
    (hE : ∀ h' e, Heap.ExtBut it s.heap h' → (∃ o, h'.get? e = some o ∧ o.cls = .type "StopIteration") → E (.ref e) { s with heap := h' }) : wpAny (model prog w) A (Builtin.SmallTypes.nextOf (.ref it)) Q E s := by
  obtain ⟨o, ho, hc, hd⟩ := id hit
  obtain ⟨ot, hot, _, n, hdt⟩ := ht
  unfold Builtin.SmallTypes.nextOf
  refine wpAny_bind (wpAny_callSpecial?_slot (name := Str.ofString "__next__") hit.typeIs F.slot_tuple_iterator_next (wpAny_call_entry F.slot_tuple_iterator_next hit.typeIs F.entry_tuple_iterator_next ?_ (F.args_tuple_iterator_next_1 _)))
  refine (show wpAny (model prog w) _ (field (.ref it) 0 >>= _) _ _ s from wpAny_bind (wpAny_field ho hd (x := .ref t) rfl ?_))
  refine (show wpAny (model prog w) _ (if (Value.ref t == Value.none) = true then _ else _) _ _ s from ?_)
  rw [if_neg (show ¬ (Value.ref t == Value.none) = true from Bool.false_ne_true)]
  refine (show wpAny (model prog w) _ (field (.ref it) 1 >>= _) _ _ s from wpAny_bind (wpAny_field ho hd (x := .int i 0) rfl ?_))
  refine (show wpAny (model prog w) _ (seqItems? (.ref t) >>= _) _ _ s from wpAny_bind (wpAny_seqItems hot hdt ?_))
  simp only [hx, Int.toNat_natCast]
  refine wpAny_bind (wpAny_rule (wpAny_bind (wpAny_setField ho hd (by simp) ?_)))
  refine (show wpAny (model prog w) _ (newExc (.type "StopIteration") [] >>= _) _ _ _ from wpAny_bind ?_)
  simp only [newTuple, newExc]
  refine wpAny_bind (wpAny_newObj_type (wpAny_bind (m := firstArgMember _ _) (wpAny_of_eq (a := Value.none) (by first | rfl | (simp only [firstArgMember]; rfl)) (wpAny_newObj_type ?_ (by size_fits)))) (by size_fits))
  simp only [raiseNew]
  refine wpAny_bind (wpAny_handled ?_)
  first | rw [hh] | rw [show A.in1.handled = none from hh]
  exact wpAny_bind (wpAny_pure (wpAny_throw (hE _ _ (((Heap.SameBut.update ..).extBut.push _).push _) ⟨_, Heap.get?_push_size _ rfl, rfl⟩)))
end
theorem drawsT {prog : Program} {w : World} {A : Around} (hh : A.handled = none) (it t : Addr) (hne : t ≠ it) (items : Array Value) :
    Draws prog w A it [it, t] items.size (fun i v => items[i]? = some v) (fun i h => h.IsTupleIter it t i ∧ h.IsTuple t items) where
  live := fun _ _ st => let ⟨o, ho, _⟩ := st.1; ⟨o, ho⟩
  frame := fun i h h' st hk => by
    obtain ⟨⟨o, ho, r⟩, ⟨o2, ho2, r2⟩⟩ := st
    exact ⟨⟨o, hk it (by simp) o ho, r⟩, ⟨o2, hk t (by simp) o2 ho2, r2⟩⟩
  item := fun i s Q E hi st hQ => tupIter_next st.1 st.2 (x := items[i]) (by simp [hi]) fun h' hit' hs' => by
    obtain ⟨o2, ho2, r2⟩ := st.2
    exact hQ _ h' s.toks (by simp [hi]) ⟨hit', ⟨o2, (hs'.2 t hne).trans ho2, r2⟩⟩ hs'
  done := fun s Q E st hE => tupIter_end hh st.1 st.2 (by simp) hE
/-- as Ite, the tuple at a -/
def IteT (K : PySem.W.Frag) (a : Addr) : It where
  go i H := ∃ (xs : List V) (x : V), SqT K H a xs ∧ xs[i]? = some x
  yld i H v H' := ∃ T x, v = .ref T ∧ H T = none ∧ H' = upd H T (.tup [.int (i : Nat), x]) ∧ ∀ xs, SqT K H a xs → xs[i]? = some x
  stop i H := ∃ xs : List V, SqT K H a xs ∧ xs.length = i
theorem turn_enT {P : Program} {w : World} {K : PySem.W.Frag} {elts : List Expr} {kk : Nat} {tpos : Pos} (a e it : Addr) (hea : e ≠ a) (hai : a ≠ it) :
    Turn P w K (.Tuple elts kk tpos) (IteT K a) [e, it] e (fun i h => (∃ old, IsEnum h e it ((i : Nat) : Int) old) ∧ h.IsTupleIter it a i ∧ e ≠ it) where
  mem := by simp
  obj := by
    rintro i h ⟨⟨old, he⟩, ⟨o, ho, hc, hd⟩, _⟩ b hb
    simp only [List.mem_cons, List.not_mem_nil, or_false] at hb
    rcases hb with z | z <;> subst z
    · exact ⟨_, he, fun v q => nomatch q⟩
    · exact ⟨o, ho, fun v q => by rw [hd] at q; cases q⟩
  keep := by
    rintro i h h' ⟨⟨old, he⟩, ⟨o, ho, r⟩, hne⟩ k
    exact ⟨⟨old, k e (by simp) _ he⟩, ⟨o, k it (by simp) o ho, r⟩, hne⟩
  item := by
    rintro X rfl rfl rfl hc i pins s σ H E I hf ⟨⟨old, he⟩, hit, hne⟩ ⟨xs, x, hq, hx⟩
    obtain ⟨its, rv, p, hz⟩ := I.tuple hq
    obtain ⟨u, hu, ru⟩ := rv.get hx
    have hlt : i < its.toArray.size := by
      rw [List.size_toArray]; exact (List.getElem?_eq_some_iff.mp hu).1
    have hd := drawsT (prog := X.prog) (w := X.w) (A := X.A.in1) (I.ok.hd hc) it a hai its.toArray
    have hel : e < s.heap.objs.size := Heap.lt_size he
    have hil : it < s.heap.objs.size := by obtain ⟨_, q, _⟩ := hit; exact Heap.lt_size q
    refine wpAny_pyNext_enum_itemD hd he ⟨hit, p⟩ hlt hne (by simp [hne, hea]) fun y h' tk hy ho hst hT hsz hk => ?_
    have ey : y = u := by
      have : its.toArray[i]? = some u := by simpa using hu
      rw [this] at hy; exact (Option.some.inj hy).symm
    subst ey
    refine ⟨_, rfl, wpAny_letOwnedTupleGo_enum (s := { s with heap := h', toks := tk + 1 }) ho fun h'' he' sb => ?_⟩
    have hT2 : h''.get? s.heap.objs.size = some { cls := .type "tuple", data := .seq #[.int i tk, y] } := (sb.2 _ (Nat.ne_of_gt hel)).trans hT
    have new : ObjOk X.prog X.w (upd H s.heap.objs.size (.tup [.int (i : Nat), x])) h'' s.heap.objs.size (.tup [.int (i : Nat), x]) :=
      ⟨by show 2 ≤ sizeLine; decide, [.int i tk, y], .cons ⟨_, rfl⟩ (.cons ru .nil), ⟨_, hT2, rfl, _, rfl⟩⟩
    have I1 : Inv X pins σ (upd H s.heap.objs.size (.tup [.int (i : Nat), x])) { s with heap := h'', toks := tk + 1 } :=
      I.turnedNew (ch := [e, it]) (fun b ob hb q => (sb.2 b (fun z => hb (by simp [z]))).trans (hk b ob (fun z => hb (by simp [z])) (fun z => hb (by simp [z])) q)) hf (Nat.le_refl _) new
    refine ⟨.ref s.heap.objs.size, _, I1, rfl, ⟨_, x, rfl, I.hok.fresh (Nat.le_refl _), rfl, fun ys hy => by rw [I.tuple_inj hy hq]; exact hx⟩, ⟨⟨y, ?_⟩, ?_, hne⟩, fun b hb => ?_⟩
    · rw [show ((i + 1 : Nat) : Int) = (i : Int) + 1 by omega]; exact he'
    · obtain ⟨o, ho2, r⟩ := hst.1
      exact ⟨o, (sb.2 it (Ne.symm hne)).trans ho2, r⟩
    · simp only [List.mem_cons, List.not_mem_nil, or_false] at hb
      have hlt : b < s.heap.objs.size := by rcases hb with z | z <;> subst z <;> assumption
      rw [upd_ne (Nat.ne_of_lt hlt)]
      exact (hf b (by simpa using hb)).1
  done := by
    rintro X rfl rfl rfl hc i pins s σ H E I hf ⟨⟨old, he⟩, hit, hne⟩ ⟨xs, hq, hx⟩
    obtain ⟨its, rv, p, hz⟩ := I.tuple hq
    obtain ⟨f0, f1, f2, f3, f4, f5⟩ := hf it (by simp)
    have hsz : its.toArray.size = i := by rw [List.size_toArray, ← rv.length]; exact hx
    have hd := drawsT (prog := X.prog) (w := X.w) (A := X.A.in1) (I.ok.hd hc) it a hai its.toArray
    refine wpAny_pyNext_enum_endD hd he ?_ fun h' eb => ⟨rfl, I.turned (t' := s.toks) (fun b o hb q => eb b o hb q) f0 f1 f3 f4 f5⟩
    rw [hsz]
    exact ⟨hit, p⟩
  self := fun A i s Q E st h => let ⟨⟨_, he⟩, _⟩ := st; wpAny_pyIter_enum he h
theorem meets_enumT (t : Addr) (items : Array Value) (n : Nat) (dct : Option Addr) (sl : Array (Option Value)) :
    Meets (Builtin.«enumerate.__new__» ⟨[.type "enumerate", .ref t], []⟩) (fun _ R s => s.heap.get? t = some { cls := .type "tuple", dict := dct, data := .seq items n, slots := sl } ∧
      R (.ok (.ret (.ref (s.heap.push { cls := .type "tuple_iterator", data := .fields #[.ref t, .int 0 0] }).objs.size)))
        { s with heap := (s.heap.push { cls := .type "tuple_iterator", data := .fields #[.ref t, .int 0 0] }).push { cls := .type "enumerate", data := .fields #[.none, .bool false, .ref s.heap.objs.size, rawInt 0, .none, .none] } }) :=
  .of_wp fun prog w A R s h => by
    obtain ⟨hp, g, d, tk, os⟩ := s; obtain ⟨ht, h⟩ := h
    have sub := sub_enumerate
    have isT : Heap.IsTuple (Shared.heap ⟨hp, g, d, tk, os⟩) t items := ⟨_, ht, rfl, n, rfl⟩
    wp_walk using wpAny_loadPart' ht
    refine wpAny_stack_any fun st => wpAny_pure ?_
    split
    · rename_i c _ _ _ _ _
      cases (c == Value.type "enumerate") <;> (wp_walk using wpAny_loadPart' ht, wpAny_pyIter_tuple isT; exact ⟨_, rfl, h⟩)
    · wp_walk using wpAny_loadPart' ht, wpAny_pyIter_tuple isT
      exact ⟨_, rfl, h⟩
section
variable {prog : Program} {w : World} {A : Around} {E : Value → Shared → Prop} {s : Shared}
theorem call_enumT {t : Addr} {items : Array Value} {Q : Value → Shared → Prop} (ht : s.heap.IsTuple t items)
    (h : ∀ h', IsEnum h' (s.heap.objs.size + 1) s.heap.objs.size 0 .none → h'.IsTupleIter s.heap.objs.size t 0 → (∀ b o, s.heap.get? b = some o → h'.get? b = some o) → Q (.ref (s.heap.objs.size + 1)) { s with heap := h' }) :
    wpAny (model prog w) A (call (.type "enumerate") [.ref t]) Q E s := by
  obtain ⟨⟨c, dct, dt, sl⟩, hl, hc, n, hd⟩ := ht
  replace hc : c = .type "tuple" := hc
  replace hd : dt = .seq items n := hd
  subst hc hd
  refine callType_new F.called_enumerate (by decide) (F.typeCall_enumerate_1 _) (F.newCall_enumerate_1 _) (fun obj => F.args_object_init_2 obj _) F.entry_enumerate_new (meets_enumT t items n dct sl) ⟨hl, ?_⟩
  have hz : (s.heap.push { cls := .type "tuple_iterator", data := .fields #[.ref t, .int 0 0] }).objs.size = s.heap.objs.size + 1 := Heap.size_push ..
  show _ ∧ _
  rw [hz]
  have he := Heap.get?_push_size (s.heap.push { cls := .type "tuple_iterator", data := .fields #[.ref t, .int 0 0] }) (o := { cls := .type "enumerate", data := .fields #[.none, .bool false, .ref s.heap.objs.size, rawInt 0, .none, .none] }) rfl
  rw [hz] at he
  exact ⟨⟨_, he, rfl⟩, h _ he ⟨_, Heap.get?_push_of_some _ (Heap.get?_push_size _ rfl), rfl, rfl⟩ fun b o x => Heap.get?_push_of_some _ (Heap.get?_push_of_some _ x)⟩
end
def iEnA (K : PySem.W.Frag) (ta : TA) : TI := fun σ H RI => ta σ H fun vs H1 => ∃ a, vs = [.ref a] ∧ ((∃ xs, SqL K H1 a xs ∧ RI (Ite K a) H1) ∨ (∃ xs, SqT K H1 a xs ∧ RI (IteT K a) H1))
theorem pi_enA {X : Cx} {e : Expr} {ta : TA} {p pos tpos : Pos} {elts : List Expr} {kk : Nat} (hg : Gl X "enumerate") (hm : X.mg "enumerate" = none) (ha : PA X [e] ta) (hs : starEach [e] X.env = [(false, eval e X.env)]) :
    PI X (.Tuple elts kk tpos) (.Call (.Name "enumerate" p) [e] [] pos) (iEnA X.K ta) := by
  refine ⟨fun pins s σ H R I h => Call_ (ld_blt I hg hm boot_enumerate (PyProof.Rows.callWith_type1 (thn (ha.run pos pins s σ H _ I h) ?_) hs rfl))⟩
  rintro us s1 ⟨vs, H1, I1, r1, a, rfl, hx⟩
  cases r1 with
  | cons r rr =>
    cases rr
    cases r
    have low : ∀ b ∈ ([s1.heap.objs.size + 1, s1.heap.objs.size] : List Addr), FpOk X pins H1 b := fun b hb => by
      have hle : s1.heap.objs.size ≤ b := by
        simp only [List.mem_cons, List.not_mem_nil, or_false] at hb
        rcases hb with z | z <;> subst z <;> omega
      exact I1.fpOk hle (I1.hok.fresh hle)
    rcases hx with ⟨xs, hq, q⟩ | ⟨xs, hq, q⟩
    · obtain ⟨its, rv, p', hz⟩ := I1.list hq
      exact call_enumerate_list p'.isList fun h' he hit hsz hk => wpAny_pyIter_enum he ⟨_, _, _, _, H1, rfl, I1.kept (t' := s1.toks) hk, turn_enum a (s1.heap.objs.size + 1) s1.heap.objs.size, ⟨⟨.none, he⟩, hit, Nat.succ_ne_self _⟩, low, q⟩
    · obtain ⟨its, rv, p', hz⟩ := I1.tuple hq
      have hlt : a < s1.heap.objs.size := by obtain ⟨o, ho, _⟩ := p'; exact Heap.lt_size ho
      exact call_enumT (show s1.heap.IsTuple a its.toArray from p') fun h' he hit hk => wpAny_pyIter_enum he ⟨_, _, _, _, H1, rfl, I1.kept (t' := s1.toks) hk, turn_enT a (s1.heap.objs.size + 1) s1.heap.objs.size (Nat.ne_of_gt (Nat.lt_succ_of_lt hlt)) (Nat.ne_of_lt hlt), ⟨⟨.none, he⟩, hit, Nat.succ_ne_self _⟩, low, q⟩
end Ev

set_option Elab.async false
set_option linter.all false
set_option maxRecDepth 100000
set_option maxHeartbeats 2000000
/-! EvB: a op b, where what is owned within a list may have to be shared. -/
namespace Ev
open PySem L2
section
variable {M : Gb} {cl : Cl} {G : Cn} {k : Nat} {W : WX} {X : Cx}
theorem sE_bin2 {a b : Expr} {op : Operator} {pos : Pos} {fa fb : En → R (RV × En)} (ha : PE X a (tE X.K X.mg W fa)) (hb : PE X b (tE X.K X.mg W fb)) (ga : ∀ e v e', fa e = .ok (v, e') → flat v = true) (gb : ∀ e v e', fb e = .ok (v, e') → flat v = true) :
    PE X (.BinOp a op b pos) (tE X.K X.mg W fun e => (fa e).bind fun (va, e1) => (fb e1).bind fun (vb, e2) => match content e2 va, content e2 vb with
      | some x, some y => (match binop op x y with
        | some d => .ok (.val d, e2)
        | none => (takes e2 [va, vb]).bind fun (ds, e3) => match ds with
          | [x', y'] => (ofO (binop op x' y')).bind fun d => .ok (.val d, e3)
          | _ => .stuck)
      | _, _ => .stuck) := by
  refine ⟨fun pins s σ H Q I ⟨e, F, A, S, post⟩ => wpAny_BinOp ?_⟩
  refine seqE (T := []) ha I S (Step.refl fun _ z => by simpa using z) post fun va e1 h1 v u s1 H1 F1 A1 as1 I1 r1 st1 st01 S1 res1 post => ?_
  refine seqE (T := as1) hb I1 S1 (by simpa using st01) post fun vb e2 h2 y w s2 H2 F2 A2 as2 I2 r2 st2 st02 S2 res2 post => ?_
  obtain ⟨res1', dj⟩ := res1.past (ga _ _ _ h1) st2
  cases ca : content e2 va with
  | none => simp only [ca] at post; exact post.elim
  | some x =>
    cases cb : content e2 vb with
    | none => simp only [ca, cb] at post; exact post.elim
    | some z =>
      simp only [ca, cb] at post
      obtain ⟨a1, p1, _⟩ := ResV.content S2 res1' ca
      obtain ⟨a2, p2, _⟩ := ResV.content S2 res2 cb
      cases hd : binop op x z with
      | some d =>
        rw [hd] at post
        exact binop_ok I2 r1 r2 S2.sub p1 p2 hd (OkE.fin (T := as1 ++ as2) (by simpa [List.append_assoc] using st02) S2 post)
      | none =>
        simp only [hd] at post
        have rvs : ResVs X.K X.mg F2 H2 σ A2 [v, y] [va, vb] (as1 ++ as2) := by
          simp only [ResVs]
          exact ⟨v, [y], as1, as2, rfl, rfl, ga _ _ _ h1, res1', ⟨y, [], as2, [], rfl, by simp, gb _ _ _ h2, res2, ⟨rfl, rfl⟩, fun _ _ => by simp⟩, dj⟩
        cases ht : takes e2 [va, vb] with
        | err _ _ _ => exact (takes_noerr ht).elim
        | stuck => rw [ht] at post; exact post.elim
        | ok p =>
          obtain ⟨ds, e3⟩ := p
          rw [ht] at post
          obtain ⟨F3, A3, as3, st3, S3, rel, nd3, dj3, _, _, _⟩ := takes_ok S2 rvs ht
          match ds, post, rel with
          | [], post, rel => exact post.elim
          | [_], post, rel => exact post.elim
          | _ :: _ :: _ :: _, post, rel => exact post.elim
          | [x', y'], post, rel =>
            have post : PostG W σ A H F ((ofO (binop op x' y')).bind fun d => .ok (.val d, e3)) (OkE X.K X.mg σ A H F Q) := post
            simp only [ReL] at rel
            obtain ⟨v1, r', b1, b2, ev, eb, q1, v2, r'', b3, b4, ev2, eb2, q2, _, _⟩ := rel
            simp only [List.cons.injEq] at ev
            obtain ⟨rfl, rfl⟩ := ev
            simp only [List.cons.injEq] at ev2
            obtain ⟨rfl, rfl⟩ := ev2
            cases hd2 : binop op x' y' with
            | none => rw [hd2] at post; exact post.elim
            | some d =>
              rw [hd2] at post
              have st : Step A H F (as3 ++ A3) H2 F3 := (show Step A H F ((as1 ++ as2) ++ A2) H2 F2 by simpa [List.append_assoc] using st02).trans st3
              exact binop_ok I2 r1 r2 S3.sub q1 q2 hd2 (OkE.fin (T := as3) st S3 post)
end
end Ev

set_option Elab.async false
set_option linter.all false
set_option maxRecDepth 100000
set_option maxHeartbeats 2000000
/-! Ev18: enumerate, the empty dict, x[::-1]. -/
namespace Ev
open PySem L2

section
variable {M : Gb} {cl : Cl} {G : Cn} {k : Nat} {W : WX} {X : Cx} {tg : Expr}
theorem itok_enT {K : PySem.W.Frag} {mg : Str → Option Value} {F : Hp} {a : Addr} {ds : List D} {vs : List V} (hs : SqT K F a vs) (r : ReL K mg F F ds vs []) : ItOk K mg F (IteT K a) (enD 0 ds) where
  go := fun i H2 F2 l1 l2 hi => by
    rw [enD_length] at hi
    obtain ⟨v, hv, _⟩ := rel_at r (List.getElem?_eq_getElem hi)
    exact ⟨vs, v, (l1.trans l2).seqT hs, hv⟩
  yld := fun i H2 F2 x H3 d l1 l2 hd ⟨T, y, ex, hT, eH, hy⟩ => by
    obtain ⟨c, hc, ed⟩ := enD_at hd
    obtain ⟨v, hv, rv⟩ := rel_at r hc
    have := hy vs ((l1.trans l2).seqT hs)
    rw [hv] at this
    cases this
    subst eH; subst ex; subst ed
    have hf : F2 T = none := by
      cases q : F2 T with
      | none => rfl
      | some o => rw [l2 T o q] at hT; cases hT
    refine ⟨upd F2 T (.tup [.int (i : Nat), y]), Step.newF hT hf, fun b o q => ?_, ?_⟩
    · by_cases z : b = T
      · subst z; rw [upd_same] at q ⊢; exact q
      · rw [upd_ne z] at q ⊢; exact l2 b o q
    · have l3 : Le F (upd F2 T (.tup [.int (i : Nat), y])) := fun b o q => by
        have q2 := l1 b o q
        rw [upd_ne (ne_of_none q2 hf)]; exact q2
      simp only [Rep, ReL]
      refine ⟨trivial, T, _, rfl, .inl (.inl upd_same), V.int (i : Nat), [y], [], [], rfl, rfl, ⟨by simp, rfl⟩, y, [], [], [], rfl, rfl, rv.later l3, rfl, rfl⟩
  stop := fun H2 F2 l1 l2 => ⟨vs, (l1.trans l2).seqT hs, by rw [enD_length, r.length]⟩
theorem sEn {a : Expr} {p pos : Pos} {f : En → R (RV × En)} (g : Good M cl G k W X) (ht : isTup tg = true) (hn : noStar [a] = true) (hg : G.glob "enumerate" = true) (hf : M.free.contains "enumerate" = true) (ha : PE X a (tE X.K X.mg W f)) :
    PI X tg (.Call (.Name "enumerate" p) [a] [] pos) (tI X.K X.mg W fun e => (f e).bind fun (v, e1) => (takeF e1 v).bind fun (d, e2) => (match d with | .tup ds => .ok (enD 0 ds, e2) | .lst _ ds => .ok (enD 0 ds, e2) | _ => .stuck)) := by
  obtain ⟨elts, kk, tpos, et⟩ : ∃ elts kk tpos, tg = .Tuple elts kk tpos := by
    cases tg <;> first | exact ⟨_, _, _, rfl⟩ | (simp [isTup] at ht)
  subst et
  obtain ⟨s1, _⟩ := star_cons (env := X.env) hn
  refine ⟨fun pins s σ H RI I ⟨e, F, A, S, post⟩ => (pi_enA (g.glob hg) (g.mod.free _ hf) (pa_cons ha pa_nil s1) s1).run pins s σ H RI I ?_⟩
  refine tE_of (T := []) S nilA post fun rv e1 h1 v H1 F1 A1 as1 st1 st01 S1 res1 post => ?_
  cases ht : takeF e1 rv with
  | err _ _ _ => exact (takeF_noerr ht).elim
  | stuck => simp only [ht, R.bind] at post; exact post.elim
  | ok y =>
    obtain ⟨d, e2⟩ := y
    simp only [ht, R.bind] at post
    obtain ⟨F2, A2, s2, S2, r2⟩ := takeF_ok S1 res1 ht
    have st2 : Step A H F A2 H1 F2 := (show Step A H F (as1 ++ A1) H1 F1 by simpa using st01).trans s2
    cases d <;> first | exact post.elim | skip
    · have post : OkI X.K X.mg σ A H F RI _ := post
      obtain ⟨p, vs, ev, hs, hr⟩ := rep_tup r2
      subst ev
      exact ⟨p, rfl, .inr ⟨vs, S2.sub.seqT hs, post _ H1 F2 A2 st2 S2 (itok_enT hs (ReL.mono (Le.refl _) _ _ _ (fun a z => absurd z (by simp)) hr))⟩⟩
    · have post : OkI X.K X.mg σ A H F RI _ := post
      obtain ⟨p, vs, ev, hs, hr⟩ := rep_lstF r2
      subst ev
      exact ⟨p, rfl, .inl ⟨vs, S2.sub.seqL hs, post _ H1 F2 A2 st2 S2 (itok_enum hs hr)⟩⟩
/-- {} -/
theorem sE_dict0 {pos : Pos} : PE X (.Dict [] [] pos) (tE X.K X.mg W fun e => .ok (.val (.dic .own [] []), e)) := PE.imp pe_dnewK fun σ H Q ⟨e, F, A, S, post⟩ p hp => by
  have post : OkE X.K X.mg σ A H F Q (.val (.dic .own [] []), e) := post
  have hf := S.fresh hp
  have nA : ∀ a ∈ A, a ≠ p := fun a z q => S.live z (by rw [q]; exact hp)
  refine post (.ref p) _ F A [p] (Step.new hp) (S.past (fun a o q => ?_) (Le.refl F) (fun a z o q => ?_) S.no) ⟨?_, by simp, fun a z => ?_⟩
  · rw [upd_ne (ne_of_none (S.sub a o q) hp)]; exact S.sub a o q
  · rw [upd_ne (nA a z)]; exact q
  · simp only [Rep]
    exact ⟨p, [], [], rfl, rfl, upd_same, rfl, by simp [ReL]⟩
  · rw [List.mem_singleton.mp z]
    exact ⟨fun q => nA p q rfl, hf⟩
theorem rel_reverse {K : PySem.W.Frag} {mg : Str → Option Value} {F H : Hp} : ∀ {ds : List D} {vs : List V}, ReL K mg F H ds vs [] → ReL K mg F H ds.reverse vs.reverse []
  | [], vs, h => by simp only [ReL] at h; rw [h.1]; simp [ReL]
  | d :: ds, vs, h => by
    simp only [ReL] at h
    obtain ⟨v, r, a1, a2, e1, e2, h1, h2⟩ := h
    obtain ⟨e3, e4⟩ := List.append_eq_nil_iff.mp e2.symm
    subst e1; subst e3; subst e4
    rw [List.reverse_cons, List.reverse_cons]
    refine rel_append (as := []) (bs := []) (rel_reverse h2) ?_
    simp only [ReL]
    exact ⟨v, [], [], [], rfl, rfl, h1, rfl, rfl⟩
theorem sE_rev {a : Expr} {kk : Nat} {p1 p2 p3 pos : Pos} {f : En → R (RV × En)} (ha : PE X a (tE X.K X.mg W f)) :
    PE X (.Subscript a (.Slice none none (some (.UnaryOp .USub (.Constant (.int 1) kk p1) p2)) p3) pos) (tE X.K X.mg W fun e => (f e).bind fun (va, e1) => match content e1 va with
      | some (.tup xs) => if xs.isEmpty then .stuck else .ok (.val (.tup xs.reverse), e1)
      | some (.lst m xs) => if plainL xs then .ok (.val (.lst .own xs.reverse), e1) else .stuck
      | _ => .stuck) := PE.imp (pe_revA ha) fun σ H Q ⟨e, F, A, S, post⟩ => by
  refine tE_of (T := []) S nilA post fun rv e1 h1 v H1 F1 A1 as1 st1 st01 S1 res1 post => ?_
  cases ca : content e1 rv with
  | none => simp only [ca] at post; exact post.elim
  | some x =>
    simp only [ca] at post
    obtain ⟨a1, q1, _⟩ := ResV.content S1 res1 ca
    cases x <;> first | exact post.elim | skip
    · rename_i xs
      have post : PostG W σ A H F (if xs.isEmpty = true then .stuck else .ok (.val (.tup xs.reverse), e1)) (OkE X.K X.mg σ A H F Q) := post
      obtain ⟨p, vs, ev, hs, hr⟩ := rep_tup q1
      by_cases hx : xs.isEmpty = true
      · rw [if_pos hx] at post; exact post.elim
      · rw [if_neg hx] at post
        exact ⟨p, vs, ev, .inr ⟨S1.sub.seqT hs, fun q hq => (OkE.fin (T := as1) (by simpa using st01) S1 post).tupNew S1.sub (rel_reverse hr) hq⟩⟩
    · rename_i m xs
      have post : PostG W σ A H F (if plainL xs = true then .ok (.val (.lst .own xs.reverse), e1) else .stuck) (OkE X.K X.mg σ A H F Q) := post
      by_cases hx : plainL xs = true
      · rw [if_pos hx] at post
        obtain ⟨p, vs, bs, ev, hs, hr, _⟩ := rep_lst S1.sub q1
        exact ⟨p, vs, ev, .inl ⟨hs, fun q hq => (OkE.fin (T := as1) (by simpa using st01) S1 post).lstNew S1.sub (rel_reverse (rel_plain hx hr)) hq⟩⟩
      · rw [if_neg hx] at post; exact post.elim
end
end Ev

set_option Elab.async false
set_option linter.all false
set_option maxRecDepth 100000
set_option maxHeartbeats 4000000
/-! Ev19: expressions are reckoned as the evaluator says. -/
namespace Ev
open PySem L2

section
variable {M : Gb} {cl : Cl} {G : Cn} {k : Nat} {W : WX} {X : Cx} {tg : Expr}
structure Snd (M : Gb) (cl : Cl) (n : Nat) : Prop where
  e : ∀ {G k W X}, Good M cl G k W X → ∀ x, PE X x (tE X.K X.mg W (evE M cl G n x))
  o : ∀ {G k W X}, Good M cl G k W X → ∀ x, PE X x (tE X.K X.mg W (evO M cl G n x))
  t : ∀ {G k W X}, Good M cl G k W X → ∀ x, PT X x (tT X.K X.mg W (evT M cl G n x))
  ts : ∀ {G k W X}, Good M cl G k W X → ∀ op vs pos, PW X (.BoolOp op vs pos) (tT X.K X.mg W (evTs M cl G n op vs))
  b : ∀ {G k W X}, Good M cl G k W X → ∀ op vs pos, PE X (.BoolOp op vs pos) (tE X.K X.mg W (evB M cl G n op vs))
  a : ∀ {G k W X}, Good M cl G k W X → ∀ es, PA X es (tA X.K X.mg W (evA M cl G n es))
  p : ∀ {G k W X}, Good M cl G k W X → ∀ x, PO X x (tO X.K X.mg W (evP M cl G n x))
  f : ∀ {G k W X}, Good M cl G k W X → ∀ x, PTs X x (tT X.K X.mg W (evF M cl G n x))
  w : ∀ {G k W X}, Good M cl G k W X → ∀ tg x, PI X tg x (tI X.K X.mg W (evW M cl G n x))
  i : ∀ {G k W X}, Good M cl G k W X → ∀ tg x, PI X tg x (tI X.K X.mg W (evI M cl G n tg x))
theorem evO_flat (n : Nat) (x : Expr) (e : En) (v : RV) (e' : En) (h : evO M cl G n x e = .ok (v, e')) : flat v = true := by
  cases n with
  | zero => unfold evO at h; cases h
  | succ n =>
    unfold evO at h
    cases q : evE M cl G n x e with
    | ok y => rw [q] at h; exact sole_flat h
    | err _ _ _ => rw [q] at h; cases h
    | stuck => rw [q] at h; cases h
theorem star_not {env : PySem.Env} {a : Expr} {r : List Expr} (h : ∀ y p, a ≠ .Starred y p) : starEach (a :: r) env = (false, eval a env) :: starEach r env := by
  cases a <;> first | rfl | exact absurd rfl (h _ _)
theorem evO_star (n : Nat) (y : Expr) (p : Pos) (e : En) : evO M cl G n (.Starred y p) e = .stuck := by
  cases n with
  | zero => unfold evO; rfl
  | succ n =>
    unfold evO
    cases n with
    | zero => unfold evE; rfl
    | succ n => unfold evE; rfl
theorem snd0 : Snd M cl 0 where
  e := fun _ x => ⟨fun _ _ _ _ _ _ ⟨_, _, _, _, post⟩ => by unfold evE at post; exact post.elim⟩
  o := fun _ x => ⟨fun _ _ _ _ _ _ ⟨_, _, _, _, post⟩ => by unfold evO at post; exact post.elim⟩
  t := fun _ x => ⟨fun _ _ _ _ _ _ ⟨_, _, _, _, post⟩ => by unfold evT at post; exact post.elim⟩
  ts := fun _ _ _ _ => ⟨fun _ _ _ _ _ _ _ ⟨_, _, _, _, post⟩ => by unfold evTs at post; exact post.elim⟩
  b := fun _ _ _ _ => ⟨fun _ _ _ _ _ _ ⟨_, _, _, _, post⟩ => by unfold evB at post; exact post.elim⟩
  a := fun _ x => ⟨fun _ _ _ _ _ _ _ ⟨_, _, _, _, post⟩ => by unfold evA at post; exact post.elim⟩
  p := fun _ x => ⟨fun _ _ _ _ _ _ ⟨_, _, _, _, post⟩ => by unfold evP at post; exact post.elim⟩
  f := fun _ x => ⟨fun _ _ _ _ _ _ ⟨_, _, _, _, post⟩ => by unfold evF at post; exact post.elim⟩
  w := fun _ _ x => ⟨fun _ _ _ _ _ _ ⟨_, _, _, _, post⟩ => by unfold evW at post; exact post.elim⟩
  i := fun _ _ x => ⟨fun _ _ _ _ _ _ ⟨_, _, _, _, post⟩ => by unfold evI at post; exact post.elim⟩
theorem snd_o {n : Nat} (ih : Snd M cl n) (g : Good M cl G k W X) (x : Expr) : PE X x (tE X.K X.mg W (evO M cl G (n + 1) x)) := by
  have : evO M cl G (n + 1) x = fun e => (evE M cl G n x e).bind fun (v, e1) => sole e1 v := by funext e; unfold evO; rfl
  rw [this]
  exact sE_sole (ih.e g x)
theorem snd_w {n : Nat} (ih : Snd M cl n) (g : Good M cl G k W X) (tg x : Expr) : PI X tg x (tI X.K X.mg W (evW M cl G (n + 1) x)) := by
  have : evW M cl G (n + 1) x = fWalk (evE M cl G n x) := by funext e; unfold evW; rfl
  rw [this]
  exact sW (ih.e g x)
theorem snd_ts {n : Nat} (ih : Snd M cl n) (g : Good M cl G k W X) (op : BoolOp) (vs : List Expr) (pos : Pos) : PW X (.BoolOp op vs pos) (tT X.K X.mg W (evTs M cl G (n + 1) op vs)) := by
  match vs with
  | [] => exact ⟨fun _ _ _ _ _ _ _ ⟨_, _, _, _, post⟩ => by unfold evTs at post; exact post.elim⟩
  | [a] =>
    have : evTs M cl G (n + 1) op [a] = evT M cl G n a := by funext e; conv => lhs; unfold evTs
    rw [this]
    exact sTs_one (ih.t g a)
  | a :: b :: r =>
    have : evTs M cl G (n + 1) op (a :: b :: r) = fun e => (evT M cl G n a e).bind fun (c, e1) => if stops op c then .ok (c, e1) else evTs M cl G n op (b :: r) e1 := by funext e; conv => lhs; unfold evTs
    rw [this]
    exact sTs_cons (ih.t g a) (ih.ts g op (b :: r) pos)
theorem snd_b {n : Nat} (ih : Snd M cl n) (g : Good M cl G k W X) (op : BoolOp) (vs : List Expr) (pos : Pos) : PE X (.BoolOp op vs pos) (tE X.K X.mg W (evB M cl G (n + 1) op vs)) := by
  match vs with
  | [] => exact ⟨fun _ _ _ _ _ _ ⟨_, _, _, _, post⟩ => by unfold evB at post; exact post.elim⟩
  | [a] =>
    have : evB M cl G (n + 1) op [a] = evE M cl G n a := by funext e; conv => lhs; unfold evB
    rw [this]
    exact pe_one (ih.e g a)
  | a :: b :: r =>
    have : evB M cl G (n + 1) op (a :: b :: r) = fun e => (evE M cl G n a e).bind fun (v, e1) => match content e1 v with
      | some d => (ofO (truth d)).bind fun c => if stops op c then .ok (v, e1) else evB M cl G n op (b :: r) e1
      | none => .stuck := by
      funext e
      conv => lhs; unfold evB
      all_goals rfl
    rw [this]
    exact sE_and (ih.e g a) (ih.b g op (b :: r) pos)
theorem snd_a {n : Nat} (ih : Snd M cl n) (g : Good M cl G k W X) (es : List Expr) : PA X es (tA X.K X.mg W (evA M cl G (n + 1) es)) := by
  match es with
  | [] =>
    have : evA M cl G (n + 1) [] = fun e => .ok ([], e) := by funext e; unfold evA; rfl
    rw [this]
    exact sA_nil
  | a :: r =>
    have : evA M cl G (n + 1) (a :: r) = fun e => (evO M cl G n a e).bind fun (v, e1) => (evA M cl G n r e1).bind fun (vs, e2) => .ok (v :: vs, e2) := by funext e; conv => lhs; unfold evA
    rw [this]
    by_cases hs : ∃ y p, a = .Starred y p
    · obtain ⟨y, p, ea⟩ := hs
      subst ea
      exact ⟨fun _ _ _ _ _ _ _ ⟨_, _, _, _, post⟩ => by simp only [evO_star] at post; exact post.elim⟩
    · exact sA_cons (star_not fun y p q => hs ⟨y, p, q⟩) (ih.o g a) (ih.a g r) (evO_flat n a)
theorem snd_p {n : Nat} (ih : Snd M cl n) (g : Good M cl G k W X) (x : Option Expr) : PO X x (tO X.K X.mg W (evP M cl G (n + 1) x)) := by
  cases x with
  | none =>
    have : evP M cl G (n + 1) none = fun e => .ok (none, e) := by funext e; unfold evP; rfl
    rw [this]
    exact sP_none
  | some a =>
    have : evP M cl G (n + 1) (some a) = fun e => (evE M cl G n a e).bind fun (v, e1) => match content e1 v with | some (.int i) => .ok (some i, e1) | _ => .stuck := by funext e; unfold evP; rfl
    rw [this]
    exact sP_some (ih.e g a)
theorem snd_f {n : Nat} (ih : Snd M cl n) (g : Good M cl G k W X) (x : List Expr) : PTs X x (tT X.K X.mg W (evF M cl G (n + 1) x)) := by
  match x with
  | [] =>
    refine ⟨fun pins s σ H Q I ⟨e, F, A, S, post⟩ => pts_nil.run pins s σ H Q I ?_⟩
    unfold evF at post
    have post : OkT X.K X.mg σ A H F Q (true, e) := post
    exact post H F A stid S
  | [a] =>
    have : evF M cl G (n + 1) [a] = evT M cl G n a := by funext e; conv => lhs; unfold evF
    rw [this]
    exact pts_one (ih.t g a)
  | _ :: _ :: _ => exact ⟨fun _ _ _ _ _ _ ⟨_, _, _, _, post⟩ => by unfold evF at post; exact post.elim⟩
end
end Ev

set_option Elab.async false
set_option linter.all false
set_option maxRecDepth 100000
set_option maxHeartbeats 4000000
/-! Ev20: expressions, put together. -/
namespace Ev
open PySem L2

section
variable {M : Gb} {cl : Cl} {G : Cn} {k : Nat} {W : WX} {X : Cx} {tg : Expr}
theorem evE_cmp (n : Nat) (a b : Expr) (op : CmpOp) (p : Pos) : evE M cl G (n + 1) (.Compare a [op] [b] p) = if plainOp op then fCmp op (evO M cl G n a) (evO M cl G n b) else fun _ => .stuck := by
  funext e
  conv => lhs; unfold evE
  dsimp only
  cases plainOp op <;> rfl
theorem evE_chain (n : Nat) (a b c : Expr) (op op2 : CmpOp) (p : Pos) : evE M cl G (n + 1) (.Compare a [op, op2] [b, c] p) = if plainOp op && plainOp op2 then fChain op op2 (evO M cl G n a) (evO M cl G n b) (evO M cl G n c) else fun _ => .stuck := by
  funext e
  conv => lhs; unfold evE
  dsimp only
  cases (plainOp op && plainOp op2) <;> rfl
theorem pt_st {x : Expr} {f : En → R (Bool × En)} (h : ∀ e, f e = .stuck) : PT X x (tT X.K X.mg W f) := ⟨fun pins s σ H Q I ⟨e, F, A, S, post⟩ => by rw [h] at post; exact post.elim⟩
theorem pe_st {x : Expr} {f : En → R (RV × En)} (h : ∀ e, f e = .stuck) : PE X x (tE X.K X.mg W f) := ⟨fun pins s σ H Q I ⟨e, F, A, S, post⟩ => by rw [h] at post; exact post.elim⟩
theorem snd_tc {n : Nat} (ih : ∀ m, m ≤ n → Snd M cl m) (g : Good M cl G k W X) (a : Expr) (ops : List CmpOp) (es : List Expr) (p : Pos) : PT X (.Compare a ops es p) (tT X.K X.mg W (fTru (evE M cl G n (.Compare a ops es p)))) := by
  cases n with
  | zero => exact pt_st fun e => by simp only [fTru, evE, R.bind]
  | succ n =>
    have ih' := ih n (Nat.le_succ n)
    match ops, es with
    | [op], [b] =>
      rw [evE_cmp]
      by_cases hp : plainOp op = true
      · rw [if_pos hp]
        exact sT_cmp g hp (ih'.o g a) (ih'.o g b) (evO_flat n a)
      · rw [if_neg hp]
        exact pt_st fun e => rfl
    | [op, op2], [b, c] =>
      rw [evE_chain]
      by_cases hp : (plainOp op && plainOp op2) = true
      · rw [if_pos hp]
        exact sT_chain g hp (ih'.o g a) (ih'.o g b) (ih'.o g c) (evO_flat n a) (evO_flat n b)
      · rw [if_neg hp]
        exact pt_st fun e => rfl
    | [], _ => exact pt_st fun e => by simp only [fTru, evE, R.bind]
    | [_], [] => exact pt_st fun e => by simp only [fTru, evE, R.bind]
    | [_], _ :: _ :: _ => exact pt_st fun e => by simp only [fTru, evE, R.bind]
    | [_, _], [] => exact pt_st fun e => by simp only [fTru, evE, R.bind]
    | [_, _], [_] => exact pt_st fun e => by simp only [fTru, evE, R.bind]
    | [_, _], _ :: _ :: _ :: _ => exact pt_st fun e => by simp only [fTru, evE, R.bind]
    | _ :: _ :: _ :: _, _ => exact pt_st fun e => by simp only [fTru, evE, R.bind]
theorem snd_t {n : Nat} (ih : ∀ m, m ≤ n → Snd M cl m) (g : Good M cl G k W X) (x : Expr) : PT X x (tT X.K X.mg W (evT M cl G (n + 1) x)) := by
  have ih' := ih n (Nat.le_refl n)
  have df : (∀ e, evT M cl G (n + 1) x e = fTru (evE M cl G n x) e) → PT X x (tT X.K X.mg W (fTru (evE M cl G n x))) → PT X x (tT X.K X.mg W (evT M cl G (n + 1) x)) := fun h q => by
    rw [show evT M cl G (n + 1) x = fTru (evE M cl G n x) from funext h]
    exact q
  cases x with
  | BoolOp op vs p =>
    have : evT M cl G (n + 1) (.BoolOp op vs p) = evTs M cl G n op vs := by funext e; conv => lhs; unfold evT
    rw [this]
    exact (ih'.ts g op vs p).pt
  | UnaryOp op a p =>
    cases op with
    | Not =>
      have : evT M cl G (n + 1) (.UnaryOp .Not a p) = fun e => (evT M cl G n a e).bind fun (b, e1) => .ok (!b, e1) := by funext e; conv => lhs; unfold evT
      rw [this]
      exact sT_not (ih'.t g a)
    | _ => exact df (fun e => by unfold evT; rfl) (sT_tru (ih'.e g _) fun _ => rfl)
  | IfExp c a b p =>
    have : evT M cl G (n + 1) (.IfExp c a b p) = fun e => (evT M cl G n c e).bind fun (c, e1) => if c then evT M cl G n a e1 else evT M cl G n b e1 := by funext e; conv => lhs; unfold evT
    rw [this]
    exact sT_if (ih'.t g c) (ih'.t g a) (ih'.t g b)
  | Compare a ops es p => exact df (fun e => by unfold evT; rfl) (snd_tc ih g a ops es p)
  | _ => exact df (fun e => by unfold evT; rfl) (sT_tru (ih'.e g _) fun _ => rfl)
theorem evW_star {n : Nat} {x : Expr} (h : evE M cl G n x = fun _ => .stuck) (e : En) : evW M cl G (n + 1) x e = .stuck := by
  unfold evW
  rw [h]; rfl
theorem snd_i {n : Nat} (ih : Snd M cl n) (g : Good M cl G k W X) (tg x : Expr) : PI X tg x (tI X.K X.mg W (evI M cl G (n + 1) tg x)) := by
  refine ⟨fun pins s σ H RI I ⟨e, F, A, S, post⟩ => ?_⟩
  unfold evI at post
  split at post
  · rename_i f p a q _
    by_cases hr : (f == "range") = true
    · rw [if_pos hr] at post
      have ef : f = "range" := eq_of_beq hr
      subst ef
      split at post
      · exact post.elim
      · by_cases hg : (G.glob "range" && M.free.contains "range") = true
        · rw [if_pos hg] at post
          rw [Bool.and_eq_true] at hg
          by_cases hn : noStar [a] = true
          · exact (sR1 g hn hg.1 hg.2 (ih.e g a)).run pins s σ H RI I ⟨e, F, A, S, post⟩
          · cases a <;> first | exact absurd rfl hn | skip
            cases n <;> (simp only [evE, R.bind] at post; exact post.elim)
        · rw [if_neg hg] at post; exact post.elim
    · rw [if_neg hr] at post
      by_cases hr2 : (f == "enumerate") = true
      · rw [if_pos hr2] at post
        have ef : f = "enumerate" := eq_of_beq hr2
        subst ef
        split at post
        · exact post.elim
        · by_cases hg : (G.glob "enumerate" && M.free.contains "enumerate" && isTup tg) = true
          · rw [if_pos hg] at post
            rw [Bool.and_eq_true, Bool.and_eq_true] at hg
            by_cases hn : noStar [a] = true
            · exact (sEn g hg.2 hn hg.1.1 hg.1.2 (ih.e g a)).run pins s σ H RI I ⟨e, F, A, S, post⟩
            · cases a <;> first | exact absurd rfl hn | skip
              cases n <;> (simp only [evE, R.bind] at post; exact post.elim)
          · rw [if_neg hg] at post; exact post.elim
      · rw [if_neg hr2] at post
        exact (ih.w g tg _).run pins s σ H RI I ⟨e, F, A, S, post⟩
  · rename_i f p a b q _
    by_cases hr : (f == "range") = true
    · rw [if_pos hr] at post
      have ef : f = "range" := eq_of_beq hr
      subst ef
      split at post
      · exact post.elim
      · by_cases hg : (G.glob "range" && M.free.contains "range") = true
        · rw [if_pos hg] at post
          rw [Bool.and_eq_true] at hg
          by_cases hn : noStar [a, b] = true
          · exact (sR2 g hn hg.1 hg.2 (ih.o g a) (ih.e g b) (evO_flat n a)).run pins s σ H RI I ⟨e, F, A, S, post⟩
          · by_cases ha : ∃ y p, a = .Starred y p
            · obtain ⟨y, p, ea⟩ := ha
              subst ea
              simp only [evO_star, R.bind] at post
              exact post.elim
            · have hb : ∃ y p, b = .Starred y p := by
                cases b <;> first | exact ⟨_, _, rfl⟩ | (exfalso; apply hn; cases a <;> first | rfl | exact absurd ⟨_, _, rfl⟩ ha)
              obtain ⟨y, p, eb⟩ := hb
              subst eb
              exfalso
              cases n with
              | zero => simp only [evO, R.bind] at post; exact post.elim
              | succ n =>
                have hz : ∀ e, evE M cl G (n + 1) (.Starred y p) e = .stuck := fun e => by unfold evE; rfl
                simp only [hz, R.bind] at post
                cases q : evO M cl G (n + 1) a e with
                | ok y => rw [q] at post; exact post.elim
                | err _ _ _ => rw [q] at post; exact post.no
                | stuck => rw [q] at post; exact post.elim
        · rw [if_neg hg] at post; exact post.elim
    · rw [if_neg hr] at post
      exact (ih.w g tg _).run pins s σ H RI I ⟨e, F, A, S, post⟩
  · exact (ih.w g tg _).run pins s σ H RI I ⟨e, F, A, S, post⟩
end
end Ev

set_option Elab.async false
set_option linter.all false
set_option maxRecDepth 100000
set_option maxHeartbeats 8000000
/-! Ev21: any expression. -/
namespace Ev
open PySem L2

section
variable {M : Gb} {cl : Cl} {G : Cn} {k : Nat} {W : WX} {X : Cx} {tg : Expr}
theorem isset_or (x : Expr) : (∃ es j p, x = .Set es j p) ∨ ∀ (env : PySem.Env) (v : Value), foldedSetIterable x env v = pure v := by
  cases x <;> first | exact .inl ⟨_, _, _, rfl⟩ | exact .inr fun _ _ => rfl
theorem evE_set (n : Nat) (es : List Expr) (j : Nat) (p : Pos) (e : En) : evE M cl G n (.Set es j p) e = .stuck := by
  cases n with
  | zero => unfold evE; rfl
  | succ n => unfold evE; rfl
theorem evI_set (n : Nat) (tg : Expr) (es : List Expr) (j : Nat) (p : Pos) (e : En) : evI M cl G n tg (.Set es j p) e = .stuck := by
  cases n with
  | zero => unfold evI; rfl
  | succ n =>
    unfold evI
    cases n with
    | zero => simp only [evW]
    | succ n => simp only [evW, evE_set, R.bind]
theorem sE_blt1 {b : Bl} {f : Str} {p pos : Pos} {a : Expr} {fa : En → R (RV × En)} (g : Good M cl G k W X) (hn : noStar [a] = true) (hg : G.glob f = true) (hf : M.free.contains f = true) (hb : bltOf f = some b) (ha : PE X a (tE X.K X.mg W fa)) :
    PE X (.Call (.Name f p) [a] [] pos) (tE X.K X.mg W fun e => (fa e).bind fun (v, e1) => match content e1 v with | some d => (ofO (callB b [d])).bind fun r => .ok (.val r, e1) | none => .stuck) := by
  obtain ⟨s1, _⟩ := star_cons (env := X.env) hn
  refine PE.imp (pe_blt g hn hg hf hb (pa_cons ha pa_nil s1)) fun σ H Q ⟨e, F, A, S, post⟩ => ?_
  refine tE_of (T := []) S nilA post fun rv e1 h1 v H1 F1 A1 as1 st1 st01 S1 res1 post => ?_
  cases ca : content e1 rv with
  | none => simp only [ca] at post; exact post.elim
  | some x =>
    simp only [ca] at post
    obtain ⟨a1, q1, _⟩ := ResV.content S1 res1 ca
    cases hd : callB b [x] with
    | none => rw [hd] at post; exact post.elim
    | some d =>
      rw [hd] at post
      have rd : RelD X.K X.mg F1 H1 [x] [v] := ⟨v, [], a1, rfl, q1, rfl⟩
      exact ⟨F1, [x], d, S1.sub, rd, hd, OkE.fin (T := as1) (by simpa using st01) S1 post⟩
theorem sE_bltN {b : Bl} {f : Str} {p pos : Pos} {a : Expr} {r : List Expr} {fa : En → R (List RV × En)} (g : Good M cl G k W X) (hn : noStar (a :: r) = true) (hg : G.glob f = true) (hf : M.free.contains f = true) (hb : bltOf f = some b) (ha : PA X (a :: r) (tA X.K X.mg W fa)) :
    PE X (.Call (.Name f p) (a :: r) [] pos) (tE X.K X.mg W fun e => (fa e).bind fun (vs, e1) => match contents e1 vs with | some ds => (ofO (callB b ds)).bind fun r => .ok (.val r, e1) | none => .stuck) := by
  refine PE.imp (pe_blt g hn hg hf hb ha) fun σ H Q ⟨e, F, A, S, post⟩ => ?_
  refine tA_of (T := []) S nilA post fun rvs e1 h1 vs H1 F1 A1 as1 st1 st01 S1 res1 post => ?_
  cases ca : contents e1 rvs with
  | none => simp only [ca] at post; exact post.elim
  | some ds =>
    simp only [ca] at post
    have rd : RelD X.K X.mg F1 H1 ds vs := by
      have : ∀ (rvs : List RV) (vs : List V) (as : List Addr) (ds : List D), ResVs X.K X.mg F1 H1 σ A1 vs rvs as → contents e1 rvs = some ds → RelD X.K X.mg F1 H1 ds vs := by
        intro rvs
        induction rvs with
        | nil => intro vs as ds h hc; simp only [ResVs] at h; simp only [contents, Option.some.injEq] at hc; rw [← hc]; exact h.1
        | cons rv rvs ih =>
          intro vs as ds h hc
          simp only [ResVs] at h
          obtain ⟨v, r, a1, a2, e1', e2', fl, h1, h2, dj⟩ := h
          simp only [contents] at hc
          split at hc
          · rename_i d ds' hd hds
            cases hc
            obtain ⟨b1, q1, _⟩ := ResV.content S1 h1 hd
            exact ⟨v, r, b1, e1', q1, ih r a2 ds' h2 hds⟩
          · cases hc
      exact this rvs vs as1 ds res1 ca
    cases hd : callB b ds with
    | none => rw [hd] at post; exact post.elim
    | some d =>
      rw [hd] at post
      exact ⟨F1, ds, d, S1.sub, rd, hd, OkE.fin (T := as1) (by simpa using st01) S1 post⟩
theorem snd_e {n : Nat} (ih : Snd M cl n) (g : Good M cl G k W X) (x : Expr) : PE X x (tE X.K X.mg W (evE M cl G (n + 1) x)) := by
  refine ⟨fun pins s σ H Q I ⟨e, F, A, S, post⟩ => ?_⟩
  unfold evE at post
  split at post
  · rename_i j p _
    exact (sE_const (d := .non) pe_non (fun F H => by simp [Rep]) (fun e => rfl)).run pins s σ H Q I ⟨e, F, A, S, post⟩
  · exact (sE_const (d := .bl _) pe_bl (fun F H => by simp [Rep]) (fun e => rfl)).run pins s σ H Q I ⟨e, F, A, S, post⟩
  · exact (sE_const (d := .int _) pe_int (fun F H => by simp [Rep]) (fun e => rfl)).run pins s σ H Q I ⟨e, F, A, S, post⟩
  · exact (sE_const (d := .str _) pe_str (fun F H => by simp [Rep]) (fun e => rfl)).run pins s σ H Q I ⟨e, F, A, S, post⟩
  · exact (sE_name g _ _).run pins s σ H Q I ⟨e, F, A, S, post⟩
  · rename_i a op b p _
    exact (sE_bin2 (ih.o g a) (ih.o g b) (evO_flat n a) (evO_flat n b)).run pins s σ H Q I ⟨e, F, A, S, post⟩
  · exact (sE_not (ih.e g _)).run pins s σ H Q I ⟨e, F, A, S, post⟩
  · exact (sE_neg (ih.e g _)).run pins s σ H Q I ⟨e, F, A, S, post⟩
  · exact (ih.b g _ _ _).run pins s σ H Q I ⟨e, F, A, S, post⟩
  · exact (sE_if (ih.t g _) (ih.e g _) (ih.e g _)).run pins s σ H Q I ⟨e, F, A, S, post⟩
  · rename_i a op b p _
    by_cases hp : plainOp op = true
    · rw [if_pos hp] at post
      exact (sE_cmp g hp (ih.o g a) (ih.o g b) (evO_flat n a)).run pins s σ H Q I ⟨e, F, A, S, post⟩
    · rw [if_neg hp] at post; exact post.elim
  · rename_i a op op2 b c p _
    by_cases hp : (plainOp op && plainOp op2) = true
    · rw [if_pos hp] at post
      exact (sE_chain g hp (ih.o g a) (ih.o g b) (ih.o g c) (evO_flat n a) (evO_flat n b)).run pins s σ H Q I ⟨e, F, A, S, post⟩
    · rw [if_neg hp] at post; exact post.elim
  · exact (sE_tup (ih.a g _)).run pins s σ H Q I ⟨e, F, A, S, post⟩
  · exact (sE_lst (ih.a g _)).run pins s σ H Q I ⟨e, F, A, S, post⟩
  · exact sE_dict0.run pins s σ H Q I ⟨e, F, A, S, post⟩
  · exact (sE_rev (ih.e g _)).run pins s σ H Q I ⟨e, F, A, S, post⟩
  · exact (sE_slice (ih.o g _) (evO_flat n _) (ih.p g _) (ih.p g _)).run pins s σ H Q I ⟨e, F, A, S, post⟩
  · rename_i a b p _ _ _
    by_cases hp : (!plainIx b) = true
    · rw [if_pos hp] at post; exact post.elim
    · rw [if_neg hp] at post
      exact (sE_item g (by simpa using hp) (ih.e g a) (ih.e g b)).run pins s σ H Q I ⟨e, F, A, S, post⟩
  · rename_i elt tg iter ifs scope p _
    dsimp only at post
    by_cases hb : blkC G.N G.sc scope (ownOf G.N scope) = true
    · rw [if_pos hb] at post
      rcases isset_or iter with ⟨es, j, p', eq⟩ | hs
      · subst eq
        rw [evI_set] at post
        exact post.elim
      · exact (sE_lc g hb (ih.i g tg iter) (fun X' g' => ih.e g' elt) (fun X' g' => ih.f g' ifs) (hs X.env)).run pins s σ H Q I ⟨e, F, A, S, post⟩
    · rw [if_neg hb] at post; exact post.elim
  · rename_i f p a q _
    by_cases hn : (!noStar [a]) = true
    · rw [if_pos hn] at post; exact post.elim
    · rw [if_neg hn] at post
      have hn : noStar [a] = true := by simpa using hn
      split at post
      · exact post.elim
      · by_cases hg : G.glob f = true
        · rw [if_pos hg] at post
          by_cases hd : M.defs.contains f = true
          · rw [if_pos hd] at post
            exact (sE_call g hn hg hd (ih.a g _)).run pins s σ H Q I ⟨e, F, A, S, post⟩
          · rw [if_neg hd] at post
            by_cases hf : M.free.contains f = true
            · rw [if_pos hf] at post
              split at post
              · rename_i b hb
                exact (sE_blt1 g hn hg hf hb (ih.e g a)).run pins s σ H Q I ⟨e, F, A, S, post⟩
              · exact post.elim
            · rw [if_neg hf] at post; exact post.elim
        · rw [if_neg hg] at post; exact post.elim
  · rename_i f p a r q _ _
    by_cases hn : (!noStar (a :: r)) = true
    · rw [if_pos hn] at post; exact post.elim
    · rw [if_neg hn] at post
      have hn : noStar (a :: r) = true := by simpa using hn
      split at post
      · exact post.elim
      · by_cases hg : G.glob f = true
        · rw [if_pos hg] at post
          by_cases hd : M.defs.contains f = true
          · rw [if_pos hd] at post
            exact (sE_call g hn hg hd (ih.a g _)).run pins s σ H Q I ⟨e, F, A, S, post⟩
          · rw [if_neg hd] at post
            by_cases hf : M.free.contains f = true
            · rw [if_pos hf] at post
              split at post
              · rename_i b hb
                exact (sE_bltN g hn hg hf hb (ih.a g _)).run pins s σ H Q I ⟨e, F, A, S, post⟩
              · exact post.elim
            · rw [if_neg hf] at post; exact post.elim
        · rw [if_neg hg] at post; exact post.elim
  · exact post.elim
theorem snd : ∀ n, Snd M cl n := by
  intro n
  induction n using Nat.strongRecOn with
  | ind n ih =>
    cases n with
    | zero => exact snd0
    | succ n =>
      have ih' := ih n (Nat.lt_succ_self n)
      exact ⟨fun g x => snd_e ih' g x, fun g x => snd_o ih' g x, fun g x => snd_t (fun m h => ih m (Nat.lt_succ_of_le h)) g x, fun g op vs p => snd_ts ih' g op vs p, fun g op vs p => snd_b ih' g op vs p, fun g x => snd_a ih' g x,
        fun g x => snd_p ih' g x, fun g x => snd_f ih' g x, fun g tg x => snd_w ih' g tg x, fun g tg x => snd_i ih' g tg x⟩
end
end Ev

set_option Elab.async false
set_option linter.all false
set_option maxRecDepth 100000
set_option maxHeartbeats 2000000
/-! Ev22: writing into what is owned; readings of statements. -/
namespace Ev
open PySem L2

section
variable {K : PySem.W.Frag} {mg : Str → Option Value} {F H : Hp}
theorem part_owned {p : List Nat} {j : Nat} {d x : D} (h : part d (j :: p) = some x) : ∃ ds d1, d = .lst .own ds ∧ ds[j]? = some d1 ∧ part d1 p = some x := by
  cases d with
  | lst m ds =>
    cases m with
    | own =>
      simp only [part] at h
      split at h
      · rename_i d1 hd; exact ⟨ds, d1, rfl, hd, h⟩
      · cases h
    | fro => simp [part] at h
    | ext => simp [part] at h
  | _ => simp [part] at h
theorem putPart_snoc {n : D} {xs : List D} {j : Nat} : ∀ {p : List Nat} {d0 d1 : D}, part d0 p = some (.lst .own xs) → putPart d0 (p ++ [j]) n = some d1 → putPart d0 p (.lst .own (xs.set j n)) = some d1 ∧ j < xs.length
  | [], d0, d1, h, e => by
    simp only [part, Option.some.injEq] at h
    subst h
    simp only [List.nil_append, putPart] at e
    split at e
    · rename_i d2 hd
      cases e
      exact ⟨by simp only [putPart], (List.getElem?_eq_some_iff.mp hd).1⟩
    · cases e
  | i :: p, d0, d1, h, e => by
    obtain ⟨ds, d2, e0, hd, hp⟩ := part_owned h
    subst e0
    simp only [List.cons_append, putPart, hd] at e ⊢
    split at e
    · rename_i d3 h3
      obtain ⟨r1, r2⟩ := putPart_snoc hp h3
      rw [r1]
      exact ⟨e, r2⟩
    · cases e
/-- the part at the end of a road is put anew -/
theorem Rep.putP : ∀ {p : List Nat} {d0 x n d1 : D} {v0 o : V} {A0 : List Addr}, Rep K mg F H d0 v0 A0 → part d0 p = some x → PathV H v0 p o → putPart d0 p n = some d1 →
    ∃ pre a1 post, A0 = pre ++ a1 ++ post ∧ Rep K mg F H x o a1 ∧ ∀ (H' : Hp) (a' : List Addr), (∀ a ∈ pre ++ post, ∀ ob, H a = some ob → H' a = some ob) → Rep K mg F H' n o a' → ∃ as', Rep K mg F H' d1 v0 as' ∧ as' = pre ++ a' ++ post
  | [], d0, x, n, d1, v0, o, A0, h, hp, hv, e => by
    simp only [part, Option.some.injEq] at hp
    subst hp
    have hv' : o = v0 := hv
    subst hv'
    have e' : d1 = n := by
      have : putPart d0 [] n = some n := by unfold putPart; rfl
      rw [this] at e; exact (Option.some.inj e).symm
    subst e'
    exact ⟨[], A0, [], by simp, h, fun H' a' _ r => ⟨a', r, by simp⟩⟩
  | j :: p, d0, x, n, d1, v0, o, A0, h, hp, hv, e => by
    obtain ⟨ds, d2, e0, hd, hp2⟩ := part_owned hp
    subst e0
    simp only [putPart, hd] at e
    split at e
    · rename_i d3 h3
      cases e
      simp only [Rep] at h
      obtain ⟨a, vs, bs, ev, ea, ha, hr⟩ := h
      obtain ⟨a', vs', v1, ev', ha', hj, hpv⟩ := hv
      rw [ev] at ev'
      cases ev'
      rw [ha] at ha'
      cases ha'
      obtain ⟨w, pre, b1, post, q1, q2, q3, q4⟩ := ReL.at hr hd
      rw [hj] at q1
      cases q1
      obtain ⟨pre2, c1, post2, r1, r2, r3⟩ := Rep.putP q3 hp2 hpv h3
      refine ⟨a :: pre ++ pre2, c1, post2 ++ post, by rw [ea, q2, r1]; simp [List.append_assoc], r2, fun H' a' kp rn => ?_⟩
      obtain ⟨as', s1, s2⟩ := r3 H' a' (fun y z ob hy => kp y (by
        simp only [List.cons_append, List.mem_cons, List.mem_append] at z ⊢
        rcases z with z | z <;> simp [z]) ob hy) rn
      subst s2
      have s3 := q4 F H' d3 v1 _ (Le.refl F) (fun y z ob hy => kp y (by
        simp only [List.cons_append, List.mem_cons, List.mem_append] at z ⊢
        rcases z with z | z <;> simp [z]) ob hy) s1
      rw [show vs.set j v1 = vs from by
        obtain ⟨hlt, hget⟩ := List.getElem?_eq_some_iff.mp hj
        rw [← hget]; exact List.set_getElem_self hlt] at s3
      refine ⟨a :: (pre ++ (pre2 ++ a' ++ post2) ++ post), ?_, by simp [List.append_assoc]⟩
      simp only [Rep]
      exact ⟨a, vs, _, ev, rfl, kp a (by simp) _ ha, s3⟩
    · cases e
variable {σ : St} {e : En} {A as : List Addr}
/-- an owned list at the end of a road is written -/
theorem Sta.write {s : Nat} {p : List Nat} {d0 d1 : D} {xs ds' : List D} {o : V} {d : D} {v : V} {vs' : List V → List V}
    (S : Sta K mg F H σ e A) (r : Rep K mg F H d v as) (nd : as.Nodup) (dj : ∀ a ∈ as, a ∉ A ∧ F a = none) (hg : getE e s = some d0) (hp : part d0 p = some (.lst .own xs)) (hv : HanV H σ s p o) (he : putPart d0 p (.lst .own ds') = some d1)
    (new : ∀ vs bs, ReL K mg F H xs vs bs → bs.Nodup → (∀ a ∈ as, a ∉ bs) → ∃ bs', ReL K mg F H ds' (vs' vs) bs' ∧ bs'.Nodup ∧ ∀ a ∈ bs', a ∈ as ∨ a ∈ bs) :
    ∃ q vs A', o = .ref q ∧ q ∈ A ∧ H q = some (.lst vs) ∧ vs.length = xs.length ∧ Sta K mg F (upd H q (.lst (vs' vs))) σ (e.set s (some d1)) A' ∧ ∀ a ∈ A', a ∈ as ++ A := by
  obtain ⟨v0, hs, hpv⟩ := hv
  obtain ⟨w, pre, a1, post, q1, q2, q3, q4⟩ := EL.at S.el hg
  rw [hs] at q1
  cases q1
  obtain ⟨pre2, c1, post2, r1, r2, r3⟩ := Rep.putP q3 hp hpv he
  simp only [Rep] at r2
  obtain ⟨q, vs, bs, eo, ec, hq, hr⟩ := r2
  have nA := S.nd
  rw [q2, r1, ec] at nA
  have full : (pre ++ (pre2 ++ (q :: bs) ++ post2) ++ post) = (pre ++ pre2) ++ (q :: bs) ++ (post2 ++ post) := by simp [List.append_assoc]
  rw [full] at nA
  obtain ⟨n1, n2, n3⟩ := List.nodup_append.mp nA
  obtain ⟨m1, m2, m3⟩ := List.nodup_append.mp n1
  have hqA : ∀ y, y ∈ (pre ++ pre2) ++ (q :: bs) ++ (post2 ++ post) → y ∈ A := fun y z => by rw [q2, r1, ec, full]; exact z
  have qnb : q ∉ bs := (List.nodup_cons.mp m2).1
  have nbs : bs.Nodup := (List.nodup_cons.mp m2).2
  have asbs : ∀ a ∈ as, a ∉ bs := fun a z y => (dj a z).1 (hqA a (by simp [y]))
  have asq : ∀ a ∈ as, a ≠ q := fun a z y => (dj a z).1 (hqA a (by rw [y]; simp))
  obtain ⟨bs', b1, b2, b3⟩ := new vs bs hr nbs asbs
  have qnb' : q ∉ bs' := fun z => (b3 q z).elim (fun y => asq q y rfl) qnb
  have kp : ∀ a, a ≠ q → ∀ ob, H a = some ob → upd H q (.lst (vs' vs)) a = some ob := fun a na ob h => by rw [upd_ne na]; exact h
  have kout : ∀ a ∈ (pre ++ pre2) ++ (post2 ++ post), a ≠ q := fun a z y => by
    rcases List.mem_append.mp z with z | z
    · exact m3 a z q (by simp) y
    · exact n3 q (by simp) a z y.symm
  obtain ⟨as2, s1, s2⟩ := r3 (upd H q (.lst (vs' vs))) (q :: bs') (fun a z ob h => kp a (kout a (by
    simp only [List.mem_append] at z ⊢
    rcases z with z | z <;> simp [z])) ob h) (by
    simp only [Rep]
    exact ⟨q, vs' vs, bs', eo, rfl, upd_same, ReL.mono (Le.refl F) _ _ _ (fun a z ob h => kp a (fun y => qnb' (by rw [← y]; exact z)) ob h) b1⟩)
  subst s2
  have s3 := q4 F (upd H q (.lst (vs' vs))) d1 v0 _ (Le.refl F) (fun a z ob h => kp a (kout a (by
    simp only [List.mem_append] at z ⊢
    rcases z with z | z <;> simp [z])) ob h) s1
  rw [set_self hs] at s3
  have full2 : pre ++ (pre2 ++ (q :: bs') ++ post2) ++ post = (pre ++ pre2) ++ (q :: bs') ++ (post2 ++ post) := by simp [List.append_assoc]
  rw [full2] at s3
  have mem : ∀ a ∈ (pre ++ pre2) ++ (q :: bs') ++ (post2 ++ post), a ∈ as ++ A := fun a z => by
    simp only [List.mem_append, List.mem_cons] at z
    rcases z with (z | z | z) | z
    · exact List.mem_append_right _ (hqA a (by simp only [List.mem_append]; exact .inl (.inl z)))
    · exact List.mem_append_right _ (hqA a (by rw [z]; simp))
    · rcases b3 a z with y | y
      · exact List.mem_append_left _ y
      · exact List.mem_append_right _ (hqA a (by simp [y]))
    · exact List.mem_append_right _ (hqA a (by simp only [List.mem_append]; exact .inr z))
  have hqin : q ∈ A := hqA q (by simp)
  refine ⟨q, vs, _, eo, hqin, hq, hr.length.symm, ⟨fun a ob h => kp a (fun y => ?_) ob (S.sub a ob h), s3, ?_, fun a z => ?_⟩, mem⟩
  · rw [y, S.no q hqin] at h; cases h
  · refine List.nodup_append.mpr ⟨List.nodup_append.mpr ⟨m1, List.nodup_cons.mpr ⟨qnb', b2⟩, fun a z b y eq => ?_⟩, n2, fun a z b y eq => ?_⟩
    · rcases List.mem_cons.mp y with y | y
      · exact m3 a z q (by simp) (eq.trans y)
      · rcases b3 b y with y | y
        · exact (dj b y).1 (hqA b (by rw [← eq]; simp only [List.mem_append]; exact .inl (.inl (by simpa using z))))
        · exact m3 a z b (by simp [y]) eq
    · rcases List.mem_append.mp z with z | z
      · exact n3 a (List.mem_append_left _ z) b y eq
      · rcases List.mem_cons.mp z with z | z
        · exact n3 q (by simp) b y (z.symm.trans eq)
        · rcases b3 a z with w | w
          · exact (dj a w).1 (hqA a (by rw [eq]; simp only [List.mem_append]; exact .inr (by simpa using y)))
          · exact n3 a (by simp [w]) b y eq
  · rcases List.mem_append.mp (mem a z) with y | y
    · exact (dj a y).2
    · exact S.no a y
end

/-! ### statements -/
def OkS (K : PySem.W.Frag) (mg : Str → Option Value) (G : Cn) (σ : St) (B : List Addr) (H F : Hp) (E : Ends) : Fl → Prop
  | .nx e => ∀ σ' H' F' A', Step B H F A' H' F' → Sta K mg F' H' σ' e A' → Off (LocS G) σ σ' → E.nx σ' H'
  | .bk e => ∀ σ' H' F' A', Step B H F A' H' F' → Sta K mg F' H' σ' e A' → Off (LocS G) σ σ' → E.bk σ' H'
  | .ct e => ∀ σ' H' F' A', Step B H F A' H' F' → Sta K mg F' H' σ' e A' → Off (LocS G) σ σ' → E.ct σ' H'
  | .rt d e => ∀ σ' v H' F' A' as, Step B H F (as ++ A') H' F' → Sta K mg F' H' σ' e A' → Rep K mg F' H' d v as → as.Nodup → (∀ a ∈ as, a ∉ A' ∧ F' a = none) → Off (LocS G) σ σ' → E.rt v H'
def tS (K : PySem.W.Frag) (mg : Str → Option Value) (G : Cn) (W : WX) (f : En → R Fl) : TS := fun E σ H => ∃ e F A, Sta K mg F H σ e A ∧ PostG W σ A H F (f e) (OkS K mg G σ A H F E)
theorem psi {X : Cx} {st : Stmt} {t t' : TS} (h : PS X st t) (i : ∀ E σ H, t' E σ H → t E σ H) : PS X st t' := ⟨fun pins s σ H E I q => h.run pins s σ H E I (i E σ H q)⟩
theorem pssi {X : Cx} {st : List Stmt} {t t' : TS} (h : PSs X st t) (i : ∀ E σ H, t' E σ H → t E σ H) : PSs X st t' := ⟨fun pins s σ H E I q => h.run pins s σ H E I (i E σ H q)⟩
section
variable {K : PySem.W.Frag} {mg : Str → Option Value} {W : WX} {G : Cn} {σ σ1 : St} {H F H1 F1 : Hp} {e : En} {A A1 B : List Addr} {E : Ends}
/-- the promise behind a step -/
theorem OkS.past {fl : Fl} (st : Step B H F A1 H1 F1) (off : Off (LocS G) σ σ1) (h : OkS K mg G σ B H F E fl) : OkS K mg G σ1 A1 H1 F1 E fl := by
  cases fl with
  | nx e => exact fun σ' H' F' A' s S o => h σ' H' F' A' (st.trans s) S (off.trans o)
  | bk e => exact fun σ' H' F' A' s S o => h σ' H' F' A' (st.trans s) S (off.trans o)
  | ct e => exact fun σ' H' F' A' s S o => h σ' H' F' A' (st.trans s) S (off.trans o)
  | rt d e => exact fun σ' v H' F' A' as s S r n dj o => h σ' v H' F' A' as (st.trans s) S r n dj (off.trans o)
theorem tS_past {f : En → R Fl} (st : Step B H F A1 H1 F1) (S : Sta K mg F1 H1 σ1 e A1) (off : Off (LocS G) σ σ1) (post : PostG W σ B H F (f e) (OkS K mg G σ B H F E)) : tS K mg G W f E σ1 H1 :=
  ⟨e, F1, A1, S, PostG.past st (PostG.any post) fun _ h => h.past st off⟩
end
end Ev

set_option Elab.async false
set_option linter.all false
set_option maxRecDepth 100000
set_option maxHeartbeats 4000000
/-! Ev23: statements one by one. -/
namespace Ev
open PySem L2

section
variable {M : Gb} {cl : Cl} {G : Cn} {k : Nat} {W : WX} {X : Cx} {pos : Pos}
theorem disj_of {K : PySem.W.Frag} {mg : Str → Option Value} {F H : Hp} {σ : St} {A as : List Addr} {v : V} {rv : RV} (h : ResV K mg F H σ A v rv as) : ∀ a ∈ as, a ∉ A := fun a z => by
  cases rv with
  | val d => exact (h.2.2 a z).1
  | han i p => rw [h.1] at z; exact absurd z (by simp)
theorem sS_st {st : Stmt} {f : En → R Fl} (h : ∀ e b, f e ≠ .ok b) : PS X st (tS X.K X.mg G W f) := ⟨fun pins s σ H E I ⟨e, F, A, S, post⟩ => by
  cases q : f e with
  | ok b => exact absurd q (h e b)
  | err _ _ _ => rw [q] at post; exact post.no.elim
  | stuck => rw [q] at post; exact post.elim⟩
theorem sS_pass : PS X (.Pass pos) (tS X.K X.mg G W fun e => .ok (.nx e)) := psi ps_pass fun E σ H ⟨e, F, A, S, post⟩ => (show OkS X.K X.mg G σ A H F E (.nx e) from post) σ H F A stid S (Off.refl _ _)
theorem sS_break : PS X (.Break pos) (tS X.K X.mg G W fun e => .ok (.bk e)) := psi ps_break fun E σ H ⟨e, F, A, S, post⟩ => (show OkS X.K X.mg G σ A H F E (.bk e) from post) σ H F A stid S (Off.refl _ _)
theorem sS_cont : PS X (.Continue pos) (tS X.K X.mg G W fun e => .ok (.ct e)) := psi ps_continue fun E σ H ⟨e, F, A, S, post⟩ => (show OkS X.K X.mg G σ A H F E (.ct e) from post) σ H F A stid S (Off.refl _ _)
theorem sS_retN : PS X (.Return none pos) (tS X.K X.mg G W fun e => .ok (.rt .non e)) := psi ps_retN fun E σ H ⟨e, F, A, S, post⟩ =>
  (show OkS X.K X.mg G σ A H F E (.rt .non e) from post) σ .non H F A [] (by simpa using stid) S (by simp [Rep]) .nil (fun a z => absurd z (by simp)) (Off.refl _ _)
abbrev fRet (G : Cn) (fe : En → R (RV × En)) : En → R Fl := fun e => (fe e).bind fun (v, e1) => match v with
      | .val d => .ok (.rt d e1)
      | .han i [] => if G.bor.contains i then (take e1 v).bind fun (d, e2) => .ok (.rt d e2) else (match getE e1 i with | some d => .ok (.rt d (e1.set i none)) | none => .stuck)
      | .han i (j :: p) => (take e1 v).bind fun (d, e2) => .ok (.rt d e2)
theorem sS_ret {x : Expr} {fe : En → R (RV × En)} (he : PE X x (tE X.K X.mg W fe)) : PS X (.Return (some x) pos) (tS X.K X.mg G W (fRet G fe)) := psi (ps_ret he) fun E σ H ⟨e, F, A, S, post⟩ => by
  unfold fRet at post
  refine tE_of (T := []) S nilA post fun rv e1 h1 v H1 F1 A1 as1 st1 st01 S1 res1 post => ?_
  have st01 : Step A H F (as1 ++ A1) H1 F1 := by simpa using st01
  have tk : PostG W σ A H F ((take e1 rv).bind fun (d, e2) => .ok (.rt d e2)) (OkS X.K X.mg G σ A H F E) → E.rt v H1 := fun post => by
    cases ht : take e1 rv with
    | err _ _ _ => exact (take_noerr ht).elim
    | stuck => rw [ht] at post; exact post.elim
    | ok y =>
      obtain ⟨d, e2⟩ := y
      rw [ht] at post
      obtain ⟨F2, A2, as2, t1, S2, rp, nd, dj, _, _, _⟩ := take_ok S1 res1 (disj_of res1) ht
      exact (show OkS X.K X.mg G σ A H F E (.rt d e2) from post) σ v H1 F2 A2 as2 (st01.trans t1) S2 rp nd dj (Off.refl _ _)
  cases rv with
  | val d => exact (show OkS X.K X.mg G σ A H F E (.rt d e1) from post) σ v H1 F1 A1 as1 st01 S1 res1.1 res1.2.1 res1.2.2 (Off.refl _ _)
  | han i p =>
    cases p with
    | cons j p => exact tk post
    | nil =>
      have post : PostG W σ A H F (if G.bor.contains i then (take e1 (.han i [])).bind fun (d, e2) => .ok (.rt d e2) else (match getE e1 i with | some d => .ok (.rt d (e1.set i none)) | none => .stuck)) (OkS X.K X.mg G σ A H F E) := post
      by_cases hb : G.bor.contains i = true
      · rw [if_pos hb] at post; exact tk post
      · rw [if_neg hb] at post
        cases hd : getE e1 i with
        | none => rw [hd] at post; exact post.elim
        | some d =>
          rw [hd] at post
          obtain ⟨ea, v0, hv, hp⟩ := res1
          have hp : v = v0 := hp
          subst hp
          obtain ⟨pre, a1, po, q1, _, q3, q4⟩ := EL.drop i S1.el
          obtain ⟨w, hw, rw'⟩ := q3 d hd
          rw [hv] at hw
          cases hw
          have nd := S1.nd
          rw [q1] at nd
          obtain ⟨n1, n2, n3⟩ := nodup_mid nd
          have el := q4 (some v)
          rw [set_self hv] at el
          have sub : ∀ a ∈ pre ++ po, a ∈ A1 := fun a z => by rw [q1]; simp only [List.mem_append] at z ⊢; rcases z with z | z <;> simp [z]
          refine (show OkS X.K X.mg G σ A H F E (.rt d (e1.set i none)) from post) σ v H1 F1 (pre ++ po) a1 (st01.less fun x z => ?_) ⟨S1.sub, el, n1, fun a z => S1.no a (sub a z)⟩ rw' n2 (fun a z => ⟨n3 a z, S1.no a (by rw [q1]; simp [z])⟩) (Off.refl _ _)
          refine List.mem_append_right _ ?_
          rcases List.mem_append.mp z with z | z
          · rw [q1]; simp [z]
          · exact sub x z
/-- a def is called for what it does -/
theorem sS_expr {x : Expr} {fe : En → R (RV × En)} (he : PE X x (tE X.K X.mg W fe)) (hs : swapsWith x none pos.line X.env = pure false) : PS X (.Expr x pos) (tS X.K X.mg G W fun e => (fe e).bind fun (_, e1) => .ok (.nx e1)) := psi (ps_expr he hs) fun E σ H ⟨e, F, A, S, post⟩ => by
  refine tE_of (T := []) S nilA post fun rv e1 h1 v H1 F1 A1 as1 st1 st01 S1 res1 post => ?_
  exact (show OkS X.K X.mg G σ A H F E (.nx e1) from post) σ H1 F1 A1 (st01.less fun x z => by simp [z]) S1 (Off.refl _ _)
abbrev fApp (fo fa : En → R (RV × En)) : En → R Fl := fun e => (fo e).bind fun (vo, e1) => if !isOL (content e1 vo) then .stuck else (fa e1).bind fun (va, e2) => (take e2 va).bind fun (d, e3) => match vo, content e3 vo with
          | .han s p, some (.lst .own xs) => if xs.length < sizeLine then (match getE e3 s with
            | some d0 => (match putPart d0 p (.lst .own (xs ++ [d])) with | some d1 => .ok (.nx (e3.set s (some d1))) | none => .stuck)
            | none => .stuck) else .stuck
          | _, _ => .stuck
theorem base_or (o : Expr) (attr : Str) (env : PySem.Env) : (∃ f p pos, o = .Call (.Name f p) [] [] pos) ∨ attributeBase o attr env (eval o env) = eval o env := by
  cases o with
  | Call f as ks p =>
    cases f <;> first
      | exact .inr rfl
      | (cases as <;> first
        | exact .inr rfl
        | (cases ks <;> first
          | exact .inl ⟨_, _, _, rfl⟩
          | exact .inr rfl))
  | _ => exact .inr rfl
/-- xs.append(e) -/
theorem sS_app {o a : Expr} {ap cp pos : Pos} {fo fa : En → R (RV × En)} (ho : PE X o (tE X.K X.mg W fo)) (ha : PE X a (tE X.K X.mg W fa)) (go : ∀ e v e', fo e = .ok (v, e') → flat v = true) (hb : attributeBase o "append" X.env (eval o X.env) = eval o X.env) (hn : noStar [a] = true) (hl : (ap.endLine == cp.line) = true) :
    PS X (.Expr (.Call (.Attribute o "append" ap) [a] [] cp) pos) (tS X.K X.mg G W (fApp fo fa)) := by
  obtain ⟨s1, _⟩ := star_cons (env := X.env) hn
  have he : PE X (.Call (.Attribute o "append" ap) [a] [] cp) (tBM X.K "list" rAppend (tE X.K X.mg W fo) (tCons (tE X.K X.mg W fa) tNil)) :=
    pe_bm F.plainAttrs_list F.slot_list_append F.type_list_append mt_append ho (pa_cons ha pa_nil s1) hb (by rw [s1]; rfl) hl s1 rfl
  refine psi (ps_expr he rfl) fun E σ H ⟨e, F, A, S, post⟩ => ?_
  unfold fApp at post
  refine tE_of (T := []) S nilA post fun vo e1 h1 v H1 F1 A1 as1 st1 st01 S1 res1 post => ?_
  have st01 : Step A H F (as1 ++ A1) H1 F1 := by simpa using st01
  have fl := go _ _ _ h1
  by_cases hol : (!isOL (content e1 vo)) = true
  · simp only [hol, if_true] at post; exact post.elim
  simp only [hol] at post
  have hol : isOL (content e1 vo) = true := by simpa using hol
  -- what is appended to stands in a slot
  cases vo with
  | val d =>
    cases hfa : fa e1 with
    | stuck => simp only [hfa, R.bind] at post; exact post.elim
    | err _ _ _ => simp only [hfa, R.bind] at post; exact post.no.elim
    | ok y =>
      simp only [hfa, R.bind] at post
      cases ht : take y.2 y.1 with
      | stuck => simp only [ht] at post; exact post.elim
      | err _ _ _ => exact (take_noerr ht).elim
      | ok z => simp only [ht] at post; exact post.elim
  | han i p =>
    have hp : p = [] := by simpa [flat] using fl
    subst hp
    have has : as1 = [] := res1.1
    subst has
    have hv := res1.2
    have st01 : Step A H F A1 H1 F1 := by simpa using st01
    -- the argument is reckoned
    have key : tE X.K X.mg W fa σ H1 fun y H2 => rAppend v [y] H2 fun _ H3 => E.nx σ H3 := by
      refine tE_of (T := []) S1 (by simpa using st01) post fun va e2 h2 y H2 F2 A2 as2 st2 st02 S2 res2 post => ?_
      have st02 : Step A H F (as2 ++ A2) H2 F2 := by simpa using st02
      cases ht : take e2 va with
      | err _ _ _ => exact (take_noerr ht).elim
      | stuck => simp only [ht, R.bind] at post; exact post.elim
      | ok z =>
        obtain ⟨d, e3⟩ := z
        simp only [ht, R.bind] at post
        obtain ⟨F3, A3, as3, t3, S3, r3, n3, d3, _, _, _⟩ := take_ok S2 res2 (disj_of res2) ht
        have hv3 : HanV H2 σ i [] v := hv
        cases hc : content e3 (.han i []) with
        | none => simp only [hc] at post; exact post.elim
        | some x =>
          simp only [hc] at post
          cases x <;> try exact post.elim
          rename_i m xs
          cases m <;> try exact post.elim
          simp only at post
          by_cases hz : xs.length < sizeLine
          · rw [if_pos hz] at post
            cases hg : getE e3 i with
            | none => rw [hg] at post; exact post.elim
            | some d0 =>
              rw [hg] at post
              simp only [Ev.content, hg, part] at hc
              cases hc
              have hpp : putPart (.lst .own xs) [] (.lst .own (xs ++ [d])) = some (.lst .own (xs ++ [d])) := by unfold putPart; rfl
              simp only [hpp] at post
              obtain ⟨q, vs, A4, eo, qA, hq, hlen, S4, sub4⟩ := S3.write (vs' := fun vs => vs ++ [y]) r3 n3 d3 hg (by unfold part; rfl) hv3 hpp (fun vs bs hr nb dj => ⟨bs ++ as3, rel_append hr (by
                simp only [ReL]; exact ⟨y, [], as3, [], rfl, by simp, r3, rfl, rfl⟩), List.nodup_append.mpr ⟨nb, n3, fun a z b w eq => dj b w (by rw [← eq]; exact z)⟩, fun a z => (List.mem_append.mp z).symm⟩)
              refine ⟨q, vs, y, eo, rfl, hq, by rw [hlen]; exact hz, ?_⟩
              have wr : Step (as3 ++ A3) H2 F3 A4 (upd H2 q (.lst (vs ++ [y]))) F3 := (Step.write (B := as3 ++ A3) (F := F3) (o := .lst (vs ++ [y])) (List.mem_append_right _ qA)).less sub4
              exact (show OkS X.K X.mg G σ A H F E (.nx _) from post) σ _ F3 A4 ((st02.trans t3).trans wr) S4 (Off.refl _ _)
          · rw [if_neg hz] at post; exact post.elim
    refine ⟨?_, key⟩
    -- its type
    cases hc : content e1 (.han i []) with
    | none => rw [hc] at hol; cases hol
    | some x =>
      rw [hc] at hol
      cases x <;> try cases hol
      rename_i m xs
      have rr : ResV X.K X.mg F1 H1 σ A1 v (.han i []) [] := ⟨rfl, hv⟩
      obtain ⟨b1, rp, _⟩ := ResV.content S1 rr hc
      obtain ⟨q, vs, bs, ev, hs, _, _⟩ := rep_lst S1.sub rp
      subst ev
      exact .inl ⟨rfl, vs, hs⟩
end
end Ev

set_option Elab.async false
set_option linter.all false
set_option maxRecDepth 100000
set_option maxHeartbeats 4000000
/-! Ev24: stores. -/
namespace Ev
open PySem L2

section
variable {M : Gb} {cl : Cl} {G : Cn} {k : Nat} {W : WX} {X : Cx} {pos : Pos}
abbrev fAsg (fe : En → R (RV × En)) (fs : D → En → R En) : En → R Fl := fun e => (fe e).bind fun (rv, e1) => (take e1 rv).bind fun (d, e2) => (fs d e2).bind fun e3 => .ok (.nx e3)
/-- a value goes to a target: the readings -/
theorem asg_rd {K : PySem.W.Frag} {mg : Str → Option Value} {fe : En → R (RV × En)} {fs : D → En → R En} {E : Ends} {σ : St} {H : Hp} :
    tS K mg G W (fAsg fe fs) E σ H → tAsg (tE K mg W fe) (tG K mg G W fs) E σ H := fun ⟨e, F, A, S, post⟩ => by
  unfold fAsg at post
  refine tE_of (T := []) S nilA post fun rv e1 h1 v H1 F1 A1 as1 st1 st01 S1 res1 post => ?_
  have st01 : Step A H F (as1 ++ A1) H1 F1 := by simpa using st01
  cases ht : take e1 rv with
  | err _ _ _ => exact (take_noerr ht).elim
  | stuck => simp only [ht, R.bind] at post; exact post.elim
  | ok y =>
    obtain ⟨d, e2⟩ := y
    simp only [ht, R.bind] at post
    obtain ⟨F2, A2, as2, t2, S2, rp, nd, dj, _, _, _⟩ := take_ok S1 res1 (disj_of res1) ht
    refine ⟨e2, F2, A2, d, as2, S2, rp, nd, dj, ?_⟩
    cases hf : fs d e2 with
    | stuck => simp only [hf] at post; exact post.elim
    | err _ _ _ => simp only [hf] at post; exact ⟨post.no⟩
    | ok e3 =>
      simp only [hf] at post
      have post : OkS K mg G σ A H F E (.nx e3) := post
      exact fun σ' H' F' A' st S' off => post σ' H' F' A' ((st01.trans t2).trans st) S' off
theorem name_rd {K : PySem.W.Frag} {mg : Str → Option Value} {x : Str} {i : Nat} {v : V} {σ : St} {H : Hp} {Q : St → Hp → Prop} (hs : slotOf G.N x = some i) : tG K mg G W (asgN G x) v σ H Q → gName i v σ H Q := fun ⟨e, F, A, d, as, S, rp, nd, dj, post⟩ => by
  cases hf : asgN G x d e with
  | err _ _ _ => exact (asgN_noerr hf).elim
  | stuck => rw [hf] at post; exact post.elim
  | ok e' =>
    rw [hf] at post
    have post : OkG K mg G σ (as ++ A) H F Q e' := post
    obtain ⟨i', hs', hl, hi, hb, ee⟩ := asgN_some hf
    rw [hs] at hs'
    cases hs'
    subst ee
    obtain ⟨A', S', sub⟩ := S.put hi rp nd dj
    exact post _ H F A' (Step.refl sub) S' (Off.set _ ⟨x, hs, hl, hb⟩)
theorem asg_ok {fe : En → R (RV × En)} {fs : D → En → R En} {e : En} {b : Fl} (h : fAsg fe fs e = .ok b) : ∃ d e2 e3, fs d e2 = .ok e3 := by
  unfold fAsg at h
  cases h1 : fe e with
  | stuck => rw [h1] at h; cases h
  | err _ _ _ => rw [h1] at h; cases h
  | ok y =>
    rw [h1] at h
    simp only [R.bind] at h
    cases h2 : take y.2 y.1 with
    | stuck => rw [h2] at h; cases h
    | err _ _ _ => rw [h2] at h; cases h
    | ok z =>
      rw [h2] at h
      simp only at h
      cases h3 : fs z.1 z.2 with
      | stuck => rw [h3] at h; cases h
      | err _ _ _ => rw [h3] at h; cases h
      | ok w => exact ⟨_, _, _, h3⟩
/-- x = e -/
theorem sS_asg {n : Nat} {x : Str} {px : Pos} {v : Expr} (g : Good M cl G k W X) : PS X (.Assign [.Name x px] v pos) (tS X.K X.mg G W (fAsg (evE M cl G n v) (asgN G x))) := by
  cases hs : slotOf G.N x with
  | none =>
    refine sS_st fun e b h => ?_
    obtain ⟨d, e2, e3, h3⟩ := asg_ok h
    obtain ⟨i, hs', _⟩ := asgN_some h3
    rw [hs] at hs'; cases hs'
  | some i =>
    by_cases hl : G.loc x = true
    · obtain ⟨l1, l2⟩ := g.loc hl
      have hN : X.N.Nodup := by rw [g.N]; exact g.nd
      have plain : swapsWith v (some (.Name x px)) pos.line X.env = pure false → PS X (.Assign [.Name x px] v pos) (tS X.K X.mg G W (fAsg (evE M cl G n v) (asgN G x))) := fun hsw =>
        psi (ps_set hN (g.at_ hs) l1 ((snd n).e g v) hsw l2) fun E σ H q => by
          have q2 := asg_rd q
          obtain ⟨e, F, A, S, post⟩ := q2
          refine ⟨e, F, A, S, PostG.past (Step.refl fun _ z => z) post fun b hb => ?_⟩
          exact fun v H' F' A' as s S r => name_rd hs (hb v H' F' A' as s S r)
      -- a comprehension on the same row as its name is stored inside its block
      by_cases hc : ∃ elt tg iter ifs scope p, v = .ListComp elt [⟨tg, iter, ifs, 0⟩] scope p
      · obtain ⟨elt, tg, iter, ifs, scope, p, ev⟩ := hc
        subst ev
        by_cases ht : (X.env.blockKind == .function && X.env.kindOf x == some .local && px.line == p.line && !(scope.names.any fun (n, k) => n == x && (k == .local || k == .cell))) = true
        · have hsw : swapsWith (.ListComp elt [⟨tg, iter, ifs, 0⟩] scope p) (some (.Name x px)) pos.line X.env = pure true := by
            unfold swapsWith
            simp only [Expr.pos, ht]
          have hyl : X.env.scope.names.lookup x = some .local := by
            simp only [Bool.and_eq_true] at ht
            exact eq_of_beq ht.1.1.2
          cases n with
          | zero =>
            refine sS_st fun e b h => ?_
            unfold fAsg evE at h
            cases h
          | succ n =>
            have hE : evE M cl G (n + 1) (.ListComp elt [⟨tg, iter, ifs, 0⟩] scope p) = fun e => if blkC G.N G.sc scope (ownOf G.N scope) then fLc G scope tg (evI M cl G n tg iter) (fun e => evF M cl (G.sub scope) n ifs e) (fun e => evE M cl (G.sub scope) n elt e) e else .stuck := by
              funext e
              conv => lhs; unfold evE
              rfl
            rw [hE]
            by_cases hb : blkC G.N G.sc scope (ownOf G.N scope) = true
            · simp only [hb, if_true]
              rcases isset_or iter with ⟨es, j, p', eq⟩ | hset
              · subst eq
                refine sS_st fun e b h => ?_
                unfold fAsg fLc at h
                simp only [evI_set, R.bind] at h
                cases h
              · exact psi (sS_lc g hb (g.at_ hs) hyl hsw ((snd n).i g tg iter) (fun X' g' => (snd n).e g' elt) (fun X' g' => (snd n).f g' ifs) (hset X.env)) fun E σ H q => by
                  have q2 := asg_rd q
                  obtain ⟨e, F, A, S, post⟩ := q2
                  refine ⟨e, F, A, S, PostG.past (Step.refl fun _ z => z) post fun b hb => ?_⟩
                  exact fun v H' F' A' as s S r => name_rd hs (hb v H' F' A' as s S r)
            · refine sS_st fun e b h => ?_
              unfold fAsg at h
              simp only [if_neg hb, R.bind] at h
              cases h
        · refine plain ?_
          unfold swapsWith
          simp only [Expr.pos, ht]
      · -- no comprehension that the evaluator knows
        cases v <;> first
          | exact plain rfl
          | skip
        · rename_i elt gs scope p
          refine sS_st fun e b h => ?_
          unfold fAsg at h
          have hst : evE M cl G n (.ListComp elt gs scope p) e = .stuck := by
            cases n with
            | zero => unfold evE; rfl
            | succ n =>
              unfold evE
              split <;> first | rfl | skip
              all_goals (exfalso; apply hc; first | exact ⟨_, _, _, _, _, _, rfl⟩ | (rename_i hh; cases hh <;> exact ⟨_, _, _, _, _, _, rfl⟩))
          rw [hst] at h
          cases h
        all_goals
          refine sS_st fun e b h => ?_
          unfold fAsg at h
          cases n with
          | zero => unfold evE at h; cases h
          | succ n => unfold evE at h; cases h
    · refine sS_st fun e b h => ?_
      obtain ⟨d, e2, e3, h3⟩ := asg_ok h
      obtain ⟨i, _, hl', _⟩ := asgN_some h3
      exact hl hl'
end
end Ev

set_option Elab.async false
set_option linter.all false
set_option maxRecDepth 100000
set_option maxHeartbeats 4000000
/-! Ev25: items and several targets. -/
namespace Ev
open PySem L2

section
variable {M : Gb} {cl : Cl} {G : Cn} {k : Nat} {W : WX} {X : Cx} {pos : Pos}
theorem sG_st {t : Expr} {f : D → En → R En} (h : ∀ d e b, f d e ≠ .ok b) : PG X t (tG X.K X.mg G W f) := ⟨fun pins s σ H v u Q I r ⟨e, F, A, d, as, S, rp, nd, dj, post⟩ => by
  cases q : f d e with
  | ok b => exact absurd q (h d e b)
  | err _ _ _ => rw [q] at post; exact post.no.elim
  | stuck => rw [q] at post; exact post.elim⟩
theorem asgI_ok {n : Nat} {a b : Expr} {d : D} {e e' : En} (h : asgI M cl G n a b d e = .ok e') : ∃ s p e1 xs i j d0 d1, evE M cl G n a e = .ok (.han s p, e1) ∧ content e1 (.han s p) = some (.lst .own xs) ∧ intE G 8 b e1 = some i ∧ item xs i = some j ∧ getE e1 s = some d0 ∧ putPart d0 (p ++ [j]) d = some d1 ∧ e' = e1.set s (some d1) := by
  unfold asgI at h
  cases h1 : evE M cl G n a e with
  | stuck => rw [h1] at h; cases h
  | err _ _ _ => rw [h1] at h; cases h
  | ok y =>
    obtain ⟨va, e1⟩ := y
    rw [h1] at h
    simp only [R.bind] at h
    split at h
    · rename_i s p xs i hi hc
      split at h
      · rename_i j d0 hj hg
        split at h
        · rename_i d1 hp
          cases h
          exact ⟨s, p, e1, xs, i, j, d0, d1, rfl, hc, hi, hj, hg, hp, rfl⟩
        · cases h
      · cases h
    · cases h
theorem asgI_noerr {n : Nat} {a b : Expr} {d : D} {e : En} {c : Str} {fs : List (Str × D)} {e1 : En} {σ : St} {A B : List Addr} {H F : Hp} {φ : En → Prop} (h : asgI M cl G n a b d e = .err c fs e1) (post : PostG W σ B H F (asgI M cl G n a b d e) φ) : False := by
  rw [h] at post; exact post.no
theorem item_ix {xs : List D} {i : Int} {j : Nat} (h : item xs i = some j) : ixN xs.length i = some j := by
  unfold item at h
  split at h
  · rename_i q; cases h; exact q
  · cases h
/-- xs[i] = .. -/
theorem sG_sub {n : Nat} {a b : Expr} (g : Good M cl G k W X) : PG X (.Subscript a b pos) (tG X.K X.mg G W (asgI M cl G n a b)) := by
  by_cases hsl : ∃ lo hi st p, b = .Slice lo hi st p
  · obtain ⟨lo, hi, st, p, eb⟩ := hsl
    subst eb
    refine sG_st fun d e e' h => ?_
    obtain ⟨s, p, e1, xs, i, j, d0, d1, h1, h2, h3, _⟩ := asgI_ok h
    simp [intE] at h3
  · have ha : ∀ v, assign (.Subscript a b pos) X.env v = (do
      let ov ← holding [v] (eval a X.env)
      let iv ← holding [v, ov] (eval b X.env)
      standAt pos
      holding [v, ov, iv] (setItem ov iv v)
      release [v, ov, iv] []) := fun v => by
      cases b <;> first | rfl | exact absurd ⟨_, _, _, _, rfl⟩ hsl
    refine ⟨fun pins s σ H v u Q I r ⟨e, F, A, d, as, S, rp, nd, dj, post⟩ => (pg_sub ((snd n).e g a) (sI_ok g 8 b) set_list ha).run pins s σ H v u Q I r ?_⟩
    cases hf : asgI M cl G n a b d e with
    | stuck => rw [hf] at post; exact post.elim
    | err _ _ _ => rw [hf] at post; exact post.no.elim
    | ok e' =>
      rw [hf] at post
      have post : OkG X.K X.mg G σ (as ++ A) H F Q e' := post
      obtain ⟨sl, p, e1, xs, i, j, d0, d1, h1, h2, h3, h4, h5, h6, h7⟩ := asgI_ok hf
      subst h7
      refine ⟨e, F, A, S, ?_⟩
      rw [h1]
      show OkE X.K X.mg σ A H F _ (.han sl p, e1)
      intro o H1 F1 A1 as1 st1 S1 res1
      have has : as1 = [] := res1.1
      subst has
      have st1 : Step A H F ([] ++ A1) H1 F1 := st1
      have rd : ResV X.K X.mg F H σ A v (.val d) as := ⟨rp, nd, dj⟩
      obtain ⟨rd1, _⟩ := rd.past rfl st1
      have hv := res1.2
      simp only [Ev.content, h5] at h2
      obtain ⟨hput, hj⟩ := putPart_snoc h2 h6
      refine ⟨e1, F1, A1, i, S1, h3, ?_⟩
      obtain ⟨q, vs, A2, eo, qA, hq, hlen, S2, sub2⟩ := S1.write (vs' := fun vs => vs.set j v) rd1.1 rd1.2.1 rd1.2.2 h5 h2 hv hput (fun vs bs hr nb dj2 => by
        obtain ⟨w, pre, b1, po, q1, q2, q3, q4⟩ := ReL.at hr (List.getElem?_eq_getElem hj)
        refine ⟨pre ++ as ++ po, q4 F1 H1 d v as (Le.refl _) (fun _ _ _ z => z) rd1.1, ?_, fun y z => ?_⟩
        · rw [q2] at nb
          obtain ⟨n1, n2, n3⟩ := List.nodup_append.mp nb
          obtain ⟨m1, m2, m3⟩ := List.nodup_append.mp n1
          refine List.nodup_append.mpr ⟨List.nodup_append.mpr ⟨m1, nd, fun y z w y2 eq => dj2 w y2 (by rw [q2, ← eq]; simp [z])⟩, n2, fun y z w y2 eq => ?_⟩
          rcases List.mem_append.mp z with z | z
          · exact n3 y (List.mem_append_left _ z) w y2 eq
          · exact dj2 y z (by rw [q2, eq]; simp [y2])
        · simp only [List.mem_append] at z
          rcases z with (z | z) | z
          · exact .inr (by rw [q2]; simp [z])
          · exact .inl z
          · exact .inr (by rw [q2]; simp [z]))
      refine ⟨q, vs, i, j, eo, rfl, hq, by rw [hlen]; exact item_ix h4, ?_⟩
      have wr : Step (as ++ A1) H1 F1 A2 (upd H1 q (.lst (vs.set j v))) F1 := (Step.write (B := as ++ A1) (F := F1) (o := .lst (vs.set j v)) (List.mem_append_right _ qA)).less sub2
      exact post σ _ F1 A2 ((st1.frame as).trans (by simpa using wr)) S2 (Off.refl _ _)
/-- one target and the rest -/
theorem pgs_step {t : Expr} {ts : List Expr} {f : D → En → R En} {fr : List D → En → R En} {fa : List D → En → R En} (h1 : PG X t (tG X.K X.mg G W f)) (h2 : PGs X ts (tGs X.K X.mg G W fr)) (hs : (assignEach (t :: ts) X.env).map (·.2) = assign t X.env :: (assignEach ts X.env).map (·.2))
    (hf : ∀ d ds e, fa (d :: ds) e = (f d e).bind fun e1 => fr ds e1) (hn : ∀ e b, fa [] e ≠ .ok b) : PGs X (t :: ts) (tGs X.K X.mg G W fa) := by
  refine ⟨fun pins s σ H vs us Q I r ⟨e, F, A, ds, as, S, rp, nd, dj, post⟩ => ?_⟩
  cases ds with
  | nil =>
    cases q : fa [] e with
    | ok b => exact absurd q (hn e b)
    | err _ _ _ => rw [q] at post; exact post.no.elim
    | stuck => rw [q] at post; exact post.elim
  | cons d ds =>
    rw [hf] at post
    simp only [ReL] at rp
    obtain ⟨v, vr, a1, a2, ev, ea, r1, r2⟩ := rp
    subst ev; subst ea
    obtain ⟨n1, n2, n3⟩ := List.nodup_append.mp nd
    refine (pgs_cons h1 h2 hs).run pins s σ H _ us Q I r ⟨v, vr, rfl, e, F, A, d, a1, S, r1, n1, fun a z => dj a (List.mem_append_left _ z), ?_⟩
    cases q : f d e with
    | err _ _ _ => rw [q] at post; exact ⟨post.no⟩
    | stuck => rw [q] at post; exact post.elim
    | ok e2 =>
      rw [q] at post
      intro σ' H' F' A' st S' off
      have st2 := st.frame a2
      have dead : ∀ a ∈ a2, a ∉ a1 ++ A := fun a z y => by
        rcases List.mem_append.mp y with y | y
        · exact n3 a y a z rfl
        · exact (dj a (List.mem_append_right _ z)).1 y
      have r2' : ReL X.K X.mg F' H' ds vr a2 := ReL.mono st.le ds vr a2 (fun a z o ho => st.keep a o ho (dead a z)) r2
      have lv := ReL.live ds vr a2 r2
      have out : ∀ a ∈ a2, a ∉ A' ∧ F' a = none := fun a z => by
        obtain ⟨o, ho⟩ := lv a z
        refine ⟨fun y => ?_, ?_⟩
        · rcases st.own a y with w | w
          · exact dead a z w
          · rw [ho] at w; cases w
        · cases q2 : F' a with
          | none => rfl
          | some o' =>
            rcases st.fr a (by rw [q2]; simp) with w | w | w
            · exact absurd (dj a (List.mem_append_right _ z)).2 w
            · exact absurd w (dead a z)
            · rw [ho] at w; cases w
      have st3 : Step (a1 ++ a2 ++ A) H F (a2 ++ A') H' F' := st2.more fun y z => by
        simp only [List.mem_append] at z ⊢
        rcases z with z | z | z <;> simp [z]
      have post : PostG W σ' (a1 ++ a2 ++ A) H F (fr ds e2) (OkG X.K X.mg G σ (a1 ++ a2 ++ A) H F Q) := PostG.any post
      exact ⟨e2, F', A', ds, a2, S', r2', n2, out, PostG.past st3 post fun b hb σ2 H2 F2 A2 st4 S2 off2 => hb σ2 H2 F2 A2 (st3.trans st4) S2 (off.trans off2)⟩
theorem asgEach_name (n : Nat) (x : Str) (p : Pos) (r : List Expr) (d : D) (ds : List D) (e : En) : asgEach M cl G n (.Name x p :: r) (d :: ds) e = (asgN G x d e).bind fun e1 => asgEach M cl G n r ds e1 := by
  conv => lhs; unfold asgEach
theorem asgEach_sub (n : Nat) (a b : Expr) (p : Pos) (r : List Expr) (d : D) (ds : List D) (e : En) : asgEach M cl G n (.Subscript a b p :: r) (d :: ds) e = (asgI M cl G n a b d e).bind fun e1 => asgEach M cl G n r ds e1 := by
  conv => lhs; unfold asgEach
theorem asgEach_nil (n : Nat) (t : Expr) (r : List Expr) (e b : En) : asgEach M cl G n (t :: r) [] e ≠ .ok b := by
  intro h; cases t <;> (simp only [asgEach] at h; cases h)
def tgOk : List Expr → Bool
  | [] => true
  | .Name _ _ :: r => tgOk r
  | .Subscript _ _ _ :: r => tgOk r
  | _ => false
theorem asgEach_tg {n : Nat} : ∀ {ts : List Expr} {ds : List D} {e b : En}, asgEach M cl G n ts ds e = .ok b → tgOk ts = true
  | [], _, _, _, _ => rfl
  | t :: r, [], e, b, h => absurd h (asgEach_nil n t r e b)
  | t :: r, d :: ds, e, b, h => by
    cases t <;> first | (simp only [asgEach] at h; cases h; done) | skip
    · rw [asgEach_sub] at h
      cases q : asgI M cl G n _ _ d e with
      | ok e1 => rw [q] at h; exact asgEach_tg (ts := r) h
      | err _ _ _ => rw [q] at h; cases h
      | stuck => rw [q] at h; cases h
    · rw [asgEach_name] at h
      cases q : asgN G _ d e with
      | ok e1 => rw [q] at h; exact asgEach_tg (ts := r) h
      | err _ _ _ => rw [q] at h; cases h
      | stuck => rw [q] at h; cases h
theorem tg_each {env : PySem.Env} : ∀ {ts : List Expr}, tgOk ts = true → (assignEach ts env).length = ts.length ∧ (assignEach ts env).findIdx? (·.1) = none
  | [], _ => ⟨rfl, rfl⟩
  | t :: r, h => by
    have hr : tgOk r = true ∧ assignEach (t :: r) env = (false, assign t env) :: assignEach r env := by
      cases t <;> first | exact ⟨h, rfl⟩ | (simp [tgOk] at h)
    obtain ⟨i1, i2⟩ := tg_each (env := env) hr.1
    rw [hr.2]
    exact ⟨by simp [i1], by rw [List.findIdx?_cons]; simp [i2]⟩
theorem sGsE {n : Nat} (g : Good M cl G k W X) : ∀ {ts : List Expr}, tgOk ts = true → PGs X ts (tGs X.K X.mg G W (asgEach M cl G n ts))
  | [], _ => ⟨fun pins s σ H vs us Q I r ⟨e, F, A, ds, as, S, rp, nd, dj, post⟩ => by
      cases ds with
      | cons _ _ => simp only [asgEach] at post; exact post.elim
      | nil =>
        simp only [asgEach] at post
        have post : OkG X.K X.mg G σ (as ++ A) H F Q e := post
        simp only [ReL] at rp
        exact pgs_nil.run pins s σ H vs us Q I r ⟨rp.1, post σ H F A (Step.refl fun _ z => List.mem_append_right _ z) S (Off.refl _ _)⟩⟩
  | t :: ts, h => by
    cases t <;> first | (simp [tgOk] at h; done) | skip
    · exact pgs_step (sG_sub g) (sGsE g (ts := ts) h) rfl (fun d ds e => asgEach_sub n _ _ _ _ _ _ _) (fun e b => asgEach_nil n _ _ e b)
    · exact pgs_step (sG_name g _ _) (sGsE g (ts := ts) h) rfl (fun d ds e => asgEach_name n _ _ _ _ _ _) (fun e b => asgEach_nil n _ _ e b)
/-- xs[i] = e -/
theorem sS_asgI {n : Nat} {a b : Expr} {sp : Pos} {v : Expr} (g : Good M cl G k W X) : PS X (.Assign [.Subscript a b sp] v pos) (tS X.K X.mg G W (fAsg (evE M cl G n v) (asgI M cl G n a b))) :=
  psi (ps_asg ((snd n).e g v) (sG_sub (n := n) (a := a) (b := b) (pos := sp) g) (by cases v <;> rfl) (by cases v <;> rfl) rfl) fun E σ H q => asg_rd q
/-- a, b = e, e no written tuple -/
theorem sS_tupV {n : Nat} {ts : List Expr} {j : Nat} {tp : Pos} {v : Expr} (g : Good M cl G k W X) (hv : ∀ vs j p, v ≠ .Tuple vs j p) : PS X (.Assign [.Tuple ts j tp] v pos) (tS X.K X.mg G W (asgTup M cl G n ts v)) := by
  by_cases ht : tgOk ts = true
  · obtain ⟨w1, w2⟩ := tg_each (env := X.env) ht
    refine psi (ps_asg ((snd n).e g v) (pg_tup g.calm (sGsE (n := n) g ht) rfl w2) (by cases v <;> rfl) (by cases v <;> first | rfl | exact absurd rfl (hv _ _ _)) rfl) fun E σ H ⟨e, F, A, S, post⟩ => ?_
    unfold asgTup at post
    refine tE_of (T := []) S nilA post fun rv e1 h1 y H1 F1 A1 as1 st1 st01 S1 res1 post => ?_
    have st01 : Step A H F (as1 ++ A1) H1 F1 := by simpa using st01
    cases htk : takeF e1 rv with
    | err _ _ _ => exact (takeF_noerr htk).elim
    | stuck => simp only [htk, R.bind] at post; exact post.elim
    | ok z =>
      obtain ⟨d, e2⟩ := z
      simp only [htk, R.bind] at post
      obtain ⟨F2, A2, s2, S2, r2⟩ := takeF_ok S1 res1 htk
      cases d <;> first | exact post.elim | skip
      rename_i ds
      simp only at post
      by_cases hl : (ts.length == ds.length) = true
      · rw [if_pos hl] at post
        obtain ⟨p, vs, ev, hs, hr⟩ := rep_tup r2
        refine ⟨p, vs, ev, S2.sub.seqT hs, by rw [w1, ← hr.length]; exact (eq_of_beq hl).symm, e2, F2, A2, ds, [], S2, hr, .nil, fun a z => absurd z (by simp), ?_⟩
        cases hf : asgEach M cl G n ts ds e2 with
        | stuck => rw [hf] at post; exact post.elim
        | err _ _ _ => rw [hf] at post; exact ⟨post.no⟩
        | ok e3 =>
          rw [hf] at post
          have post : OkS X.K X.mg G σ A H F E (.nx e3) := post
          exact fun σ' H' F' A' st S' off => post σ' H' F' A' ((st01.trans s2).trans (by simpa using st)) S' off
      · rw [if_neg hl] at post; exact post.elim
  · refine sS_st fun e b h => ht ?_
    unfold asgTup at h
    cases h1 : evE M cl G n v e with
    | stuck => rw [h1] at h; cases h
    | err _ _ _ => rw [h1] at h; cases h
    | ok y =>
      rw [h1] at h
      simp only [R.bind] at h
      cases h2 : takeF y.2 y.1 with
      | stuck => rw [h2] at h; cases h
      | err _ _ _ => rw [h2] at h; cases h
      | ok z =>
        rw [h2] at h
        simp only at h
        split at h
        · rename_i ds _
          split at h
          · cases h3 : asgEach M cl G n ts ds z.2 with
            | stuck => rw [h3] at h; cases h
            | err _ _ _ => rw [h3] at h; cases h
            | ok w => exact asgEach_tg h3
          · cases h
        · cases h
end
end Ev

set_option Elab.async false
set_option linter.all false
set_option maxRecDepth 100000
set_option maxHeartbeats 4000000
/-! Ev26: a, b = x, y; op=; branches; loops. -/
namespace Ev
open PySem L2

section
variable {M : Gb} {cl : Cl} {G : Cn} {k : Nat} {W : WX} {X : Cx} {pos : Pos}
/-! ### the names of a swap -/
def fNm (G : Cn) (line : Nat) : Expr → Option Str := fun
    | .Name id pos => if G.kind id == some .local && pos.line == line then some id else none
    | _ => none
theorem namesOn_some {line : Nat} : ∀ {ts : List Expr} {xs : List Str}, namesOn G line ts = some xs → ts.filterMap (fNm G line) = xs ∧ xs.length = ts.length
  | [], xs, h => by simp only [namesOn, Option.some.injEq] at h; subst h; exact ⟨rfl, rfl⟩
  | t :: r, xs, h => by
    cases t <;> first | (simp [namesOn] at h; done) | skip
    rename_i x p
    simp only [namesOn] at h
    split at h
    · rename_i hc
      split at h
      · rename_i ys hy
        cases h
        obtain ⟨i1, i2⟩ := namesOn_some hy
        refine ⟨?_, by simp [i2]⟩
        rw [List.filterMap_cons]
        simp only [fNm, hc, if_true, i1]
      · cases h
    · cases h
theorem fm_le {line : Nat} : ∀ (ts : List Expr), (ts.filterMap (fNm G line)).length ≤ ts.length := fun ts => List.length_filterMap_le _ _
theorem namesOn_none {line : Nat} : ∀ {ts : List Expr}, namesOn G line ts = none → (ts.filterMap (fNm G line)).length ≠ ts.length
  | [], h => by simp [namesOn] at h
  | t :: r, h => by
    have le := fm_le (G := G) (line := line) r
    rw [List.filterMap_cons]
    cases q : fNm G line t with
    | none => simp only [List.length_cons]; omega
    | some x =>
      simp only [List.length_cons]
      cases t <;> first | (simp [fNm] at q; done) | skip
      rename_i y p
      simp only [fNm] at q
      split at q
      · rename_i hc
        simp only [namesOn, hc, if_true] at h
        split at h
        · cases h
        · rename_i hn
          have := namesOn_none hn
          omega
      · cases q
theorem head_line (ts : List Expr) : (ts.head?.map (·.pos.line)).getD 0 = headLine ts := by cases ts <;> rfl
def fNmX (env : PySem.Env) (line : Nat) : Expr → Option Str := fun
    | .Name id pos => if env.kindOf id == some .local && pos.line == line then some id else none
    | _ => none
def isStar : Expr → Bool
  | .Starred .. => true
  | _ => false
theorem sw_eq {ts vs : List Expr} {j j2 : Nat} {p p2 : Pos} {env : PySem.Env} : swappedStores [.Tuple ts j p] (.Tuple vs j2 p2) env =
    (if !(ts.length == 2 || ts.length == 3) || vs.length != ts.length || env.blockKind != .function then pure none else
      if vs.any isStar then pure none else
      if (ts.filterMap (fNmX env ((ts.head?.map (·.pos.line)).getD 0))).length != ts.length || (ts.filterMap (fNmX env ((ts.head?.map (·.pos.line)).getD 0))).eraseDups.length != (ts.filterMap (fNmX env ((ts.head?.map (·.pos.line)).getD 0))).length then pure none else
      if vs.all (foldedForSure 8) then pure none else do
      if vs.all (constantsAlone 8) then unsupported "assign.tuple-of-constant-expressions:order-of-the-stores"
      return some (ts.filterMap (fNmX env ((ts.head?.map (·.pos.line)).getD 0)))) := by
  rfl
theorem noStar_any {vs : List Expr} : vs.any isStar = !noStar vs := by
  induction vs with
  | nil => rfl
  | cons v r ih =>
    cases v <;> first
      | rfl
      | (rw [List.any_cons, ih]; rfl)
theorem fNm_eq (g : Good M cl G k W X) (l : Nat) : fNmX X.env l = fNm G l := by
  funext t
  cases t <;> first | rfl | (simp only [fNmX, fNm, g.kind])
theorem bk_same : (ScopeKind.function != ScopeKind.function) = false := by decide
theorem swapped_ok {ts vs : List Expr} {j j2 : Nat} {p p2 : Pos} (g : Good M cl G k W X) (hk : X.env.scope.kind = .function) :
    (swap G ts vs = .no → swappedStores [.Tuple ts j p] (.Tuple vs j2 p2) X.env = pure none) ∧ (∀ xs, swap G ts vs = .yes xs → swappedStores [.Tuple ts j p] (.Tuple vs j2 p2) X.env = pure (some xs)) := by
  have hb : X.env.blockKind = .function := by unfold Env.blockKind; rw [hk]; rfl
  rw [sw_eq, fNm_eq g, head_line, hb, noStar_any, bk_same, Bool.or_false]
  refine ⟨fun h => ?_, fun xs h => ?_⟩ <;> unfold swap at h
  · split at h
    · rename_i h1; rw [if_pos h1]
    · rename_i h1
      rw [if_neg h1]
      split at h
      · cases h
      · rename_i h2
        rw [if_neg h2]
        split at h
        · rename_i ys hn
          obtain ⟨i1, i2⟩ := namesOn_some hn
          rw [i1, i2]
          split at h
          · cases h
          · rename_i h3
            rw [i2] at h3
            have h3' : ¬ (ts.length != ts.length || ys.eraseDups.length != ts.length) = true := by simpa using h3
            rw [if_neg h3']
            split at h
            · rename_i h4; rw [if_pos h4]
            · split at h <;> cases h
        · rename_i hn
          have h3 := namesOn_none hn
          have h3' : ((ts.filterMap (fNm G (headLine ts))).length != ts.length || ((ts.filterMap (fNm G (headLine ts))).eraseDups.length != (ts.filterMap (fNm G (headLine ts))).length)) = true := by
            rw [bne_iff_ne.mpr h3]; rfl
          rw [if_pos h3']
  · split at h
    · cases h
    · rename_i h1
      rw [if_neg h1]
      split at h
      · cases h
      · rename_i h2
        rw [if_neg h2]
        split at h
        · rename_i ys hn
          obtain ⟨i1, i2⟩ := namesOn_some hn
          rw [i1, i2]
          split at h
          · cases h
          · rename_i h3
            rw [i2] at h3
            have h3' : ¬ (ts.length != ts.length || ys.eraseDups.length != ts.length) = true := by simpa using h3
            rw [if_neg h3']
            split at h
            · cases h
            · rename_i h4
              rw [if_neg h4]
              split at h
              · cases h
              · rename_i h5
                cases h
                rw [if_neg h5]
        · cases h
end
end Ev

set_option Elab.async false
set_option linter.all false
set_option maxRecDepth 100000
set_option maxHeartbeats 4000000
/-! Ev27: a, b = x, y; op=; branches; loops. -/
namespace Ev
open PySem L2

section
variable {M : Gb} {cl : Cl} {G : Cn} {k : Nat} {W : WX} {X : Cx} {pos : Pos}
def setAll (G : Cn) : List Str → List V → St → St
  | x :: r, v :: vs, σ => setAll G r vs (σ.set ((slotOf G.N x).getD 0) (some v))
  | _, _, σ => σ
theorem asgXs_ok {K : PySem.W.Frag} {mg : Str → Option Value} {F H : Hp} : ∀ {xs : List Str} {ds : List D} {vs : List V} {e e' : En} {σ : St} {A as : List Addr}, Sta K mg F H σ e A → ReL K mg F H ds vs as → as.Nodup → (∀ a ∈ as, a ∉ A ∧ F a = none) → asgXs G xs ds e = .ok e' →
    ∃ A', Sta K mg F H (setAll G xs vs σ) e' A' ∧ (∀ a ∈ A', a ∈ as ++ A) ∧ Off (LocS G) σ (setAll G xs vs σ) ∧ vs.length = xs.length
  | [], [], vs, e, e', σ, A, as, S, r, nd, dj, h => by
    simp only [asgXs, R.ok.injEq] at h
    subst h
    simp only [ReL] at r
    rw [r.1]
    exact ⟨A, S, fun a z => List.mem_append_right _ z, Off.refl _ _, rfl⟩
  | [], _ :: _, vs, e, e', σ, A, as, S, r, nd, dj, h => by simp only [asgXs] at h; cases h
  | _ :: _, [], vs, e, e', σ, A, as, S, r, nd, dj, h => by simp only [asgXs] at h; cases h
  | x :: xs, d :: ds, vs, e, e', σ, A, as, S, r, nd, dj, h => by
    simp only [asgXs] at h
    cases q : asgN G x d e with
    | err _ _ _ => rw [q] at h; cases h
    | stuck => rw [q] at h; cases h
    | ok e1 =>
      rw [q] at h
      obtain ⟨i, hs, hl, hi, hb, ee⟩ := asgN_some q
      subst ee
      simp only [ReL] at r
      obtain ⟨v, vr, a1, a2, ev, ea, r1, r2⟩ := r
      subst ev; subst ea
      obtain ⟨n1, n2, n3⟩ := List.nodup_append.mp nd
      obtain ⟨A1, S1, sub1⟩ := S.put hi r1 n1 fun a z => dj a (List.mem_append_left _ z)
      obtain ⟨A2, S2, sub2, off, hl2⟩ := asgXs_ok (xs := xs) (ds := ds) (σ := σ.set i (some v)) S1 r2 n2 (fun a z => ⟨fun y => by
        rcases List.mem_append.mp (sub1 a y) with w | w
        · exact n3 a w a z rfl
        · exact (dj a (List.mem_append_right _ z)).1 w, (dj a (List.mem_append_right _ z)).2⟩) h
      have hset : setAll G (x :: xs) (v :: vr) σ = setAll G xs vr (σ.set i (some v)) := by simp only [setAll, hs, Option.getD_some]
      rw [hset]
      refine ⟨A2, S2, fun a z => ?_, (Off.set _ ⟨x, hs, hl, hb⟩).trans off, by simp [hl2]⟩
      rcases List.mem_append.mp (sub2 a z) with w | w
      · simp [w]
      · rcases List.mem_append.mp (sub1 a w) with w | w <;> simp [w]
abbrev fSw (G : Cn) (xs : List Str) (fa : En → R (List RV × En)) : En → R Fl := fun e => (fa e).bind fun (rs, e1) => (takes e1 rs).bind fun (ds, e2) => (asgXs G xs ds e2).bind fun e3 => .ok (.nx e3)
theorem sw_rd {K : PySem.W.Frag} {mg : Str → Option Value} {xs : List Str} {fa : En → R (List RV × En)} {E : Ends} {σ : St} {H : Hp} : tS K mg G W (fSw G xs fa) E σ H → tA K mg W fa σ H fun vs H1 => vs.length = xs.length ∧ E.nx (setAll G xs vs σ) H1 := fun ⟨e, F, A, S, post⟩ => by
  unfold fSw at post
  refine tA_of (T := []) S nilA post fun rvs e1 h1 vs H1 F1 A1 as1 st1 st01 S1 res1 post => ?_
  have st01 : Step A H F (as1 ++ A1) H1 F1 := by simpa using st01
  cases ht : takes e1 rvs with
  | err _ _ _ => exact (takes_noerr ht).elim
  | stuck => simp only [ht, R.bind] at post; exact post.elim
  | ok y =>
    obtain ⟨ds, e2⟩ := y
    simp only [ht, R.bind] at post
    obtain ⟨F2, A2, as2, s2, S2, r2, n2, d2, _, _, _⟩ := takes_ok S1 res1 ht
    cases hf : asgXs G xs ds e2 with
    | stuck => simp only [hf] at post; exact post.elim
    | err _ _ _ => simp only [hf] at post; exact post.no.elim
    | ok e3 =>
      simp only [hf] at post
      have post : OkS K mg G σ A H F E (.nx e3) := post
      obtain ⟨A3, S3, sub3, off, hl⟩ := asgXs_ok S2 r2 n2 d2 hf
      exact ⟨hl, post _ H1 F2 A3 ((st01.trans s2).less sub3) S3 off⟩
theorem len2 {α : Type} {l : List α} (h : l.length = 2) : ∃ a b, l = [a, b] := by
  match l, h with
  | [a, b], _ => exact ⟨a, b, rfl⟩
theorem len3 {α : Type} {l : List α} (h : l.length = 3) : ∃ a b c, l = [a, b, c] := by
  match l, h with
  | [a, b, c], _ => exact ⟨a, b, c, rfl⟩
theorem sw_ne2 {x y : Str} (h : ([x, y].eraseDups.length != [x, y].length) = false) : x ≠ y := by
  intro e
  subst e
  simp [List.eraseDups, List.eraseDupsBy, List.eraseDupsBy.loop] at h
theorem sw_ne3 {x y z : Str} (h : ([x, y, z].eraseDups.length != [x, y, z].length) = false) : x ≠ y ∧ x ≠ z ∧ y ≠ z := by
  refine ⟨fun e => ?_, fun e => ?_, fun e => ?_⟩ <;> subst e
  · cases q : (z == x) <;> simp [List.eraseDups, List.eraseDupsBy, List.eraseDupsBy.loop, q] at h
  · cases q : (y == x) <;> cases q2 : (x == y) <;> simp [List.eraseDups, List.eraseDupsBy, List.eraseDupsBy.loop, q, q2] at h
  · cases q : (y == x) <;> simp [List.eraseDups, List.eraseDupsBy, List.eraseDupsBy.loop, q] at h
theorem swap_yes {ts vs : List Expr} {xs : List Str} (h : swap G ts vs = .yes xs) : namesOn G (headLine ts) ts = some xs ∧ (ts.length = 2 ∨ ts.length = 3) ∧ vs.length = ts.length ∧ (xs.eraseDups.length != xs.length) = false := by
  unfold swap at h
  split at h
  · cases h
  · rename_i h1
    split at h
    · cases h
    · split at h
      · rename_i ys hy
        split at h
        · cases h
        · rename_i h3
          split at h
          · cases h
          · split at h
            · cases h
            · cases h
              simp only [Bool.or_eq_true, Bool.not_eq_true', not_or, bne_iff_ne, ne_eq, Decidable.not_not, Bool.not_eq_false, Bool.or_eq_true, beq_iff_eq] at h1
              exact ⟨hy, h1.1, h1.2, by simpa using h3⟩
      · cases h
theorem namesOn_local {line : Nat} : ∀ {ts : List Expr} {xs : List Str}, namesOn G line ts = some xs → (∀ x ∈ xs, G.kind x = some .local) ∧ ∃ ps : List Pos, ts = (xs.zip ps).map (fun q => Expr.Name q.1 q.2) ∧ ps.length = xs.length
  | [], xs, h => by simp only [namesOn, Option.some.injEq] at h; subst h; exact ⟨fun x z => absurd z (by simp), [], rfl, rfl⟩
  | t :: r, xs, h => by
    cases t <;> first | (simp [namesOn] at h; done) | skip
    rename_i x p
    simp only [namesOn] at h
    split at h
    · rename_i hc
      split at h
      · rename_i ys hy
        cases h
        obtain ⟨i1, ps, i2, i3⟩ := namesOn_local hy
        simp only [Bool.and_eq_true, beq_iff_eq] at hc
        refine ⟨fun z hz => ?_, p :: ps, by rw [i2]; rfl, by simp [i3]⟩
        rcases List.mem_cons.mp hz with q | q
        · rw [q]; exact hc.1
        · exact i1 z q
      · cases h
    · cases h
theorem slot_of_local {x : Str} (h : G.kind x = some .local) : G.loc x = true := by unfold Cn.loc; rw [h]
/-- a, b = x, y -/
theorem sS_swap {n : Nat} {ts vs : List Expr} {j j2 : Nat} {p p2 : Pos} {xs : List Str} (g : Good M cl G k W X) (h : swap G ts vs = .yes xs) : PS X (.Assign [.Tuple ts j p] (.Tuple vs j2 p2) pos) (tS X.K X.mg G W (fSw G xs (evA M cl G n vs))) := by
  refine ⟨fun pins s σ H E I q => ?_⟩
  have hw := (swapped_ok (ts := ts) (vs := vs) (j := j) (j2 := j2) (p := p) (p2 := p2) g I.ok.kind).2 xs h
  obtain ⟨h1, h2, h3, h4⟩ := swap_yes h
  obtain ⟨hl, ps, et, hp⟩ := namesOn_local h1
  have hN : X.N.Nodup := by rw [g.N]; exact g.nd
  have lk : ∀ x ∈ xs, X.env.scope.names.lookup x = some .local := fun x z => by rw [g.sc]; exact hl x z
  have lenx : xs.length = ts.length := (namesOn_some h1).2
  -- a name that has no slot is never stored
  by_cases hs : ∀ x ∈ xs, (slotOf G.N x).isSome = true
  · have at_ : ∀ x ∈ xs, X.N[(slotOf G.N x).getD 0]? = some x := fun x z => by
      obtain ⟨i, hi⟩ := Option.isSome_iff_exists.mp (hs x z)
      rw [hi]
      exact g.at_ hi
    have ne : ∀ x ∈ xs, ∀ y ∈ xs, x ≠ y → (slotOf G.N x).getD 0 ≠ (slotOf G.N y).getD 0 := fun x hx y hy nxy e => by
      have a1 := at_ x hx
      rw [e, at_ y hy] at a1
      exact nxy (Option.some.inj a1).symm
    rcases h2 with h2 | h2
    · have hx2 : xs.length = 2 := lenx.trans h2
      have hp2 : ps.length = 2 := hp.trans hx2
      have hv2 : vs.length = 2 := h3.trans h2
      obtain ⟨x, y, rfl⟩ := len2 hx2
      obtain ⟨px, py, rfl⟩ := len2 hp2
      obtain ⟨a, b, rfl⟩ := len2 hv2
      subst et
      have nxy := sw_ne2 h4
      refine (ps_par g.calm hN (at_ x (by simp)) (at_ y (by simp)) (ne x (by simp) y (by simp) nxy) (lk x (by simp)) (lk y (by simp)) ((snd n).a g [a, b]) hw rfl).run pins s σ H E I ?_
      obtain ⟨e, F, A, S, post⟩ := sw_rd q
      refine ⟨e, F, A, S, PostG.past (Step.refl fun _ z => z) post fun b hb => ?_⟩
      intro ws H' F' A' as st S' res
      obtain ⟨hl, hq⟩ := hb ws H' F' A' as st S' res
      obtain ⟨v, w, rfl⟩ := len2 hl
      exact ⟨v, w, rfl, by simpa [setAll] using hq⟩
    · have hx2 : xs.length = 3 := lenx.trans h2
      have hp2 : ps.length = 3 := hp.trans hx2
      have hv2 : vs.length = 3 := h3.trans h2
      obtain ⟨x, y, z, rfl⟩ := len3 hx2
      obtain ⟨px, py, pz, rfl⟩ := len3 hp2
      obtain ⟨a, b, c, rfl⟩ := len3 hv2
      subst et
      obtain ⟨nxy, nxz, nyz⟩ := sw_ne3 h4
      refine (ps_par3 g.calm hN (at_ x (by simp)) (at_ y (by simp)) (at_ z (by simp)) (ne x (by simp) y (by simp) nxy) (ne x (by simp) z (by simp) nxz) (ne y (by simp) z (by simp) nyz) (lk x (by simp)) (lk y (by simp)) (lk z (by simp)) ((snd n).a g [a, b, c]) hw rfl).run pins s σ H E I ?_
      obtain ⟨e, F, A, S, post⟩ := sw_rd q
      refine ⟨e, F, A, S, PostG.past (Step.refl fun _ z => z) post fun b hb => ?_⟩
      intro ws H' F' A' as st S' res
      obtain ⟨hl, hq⟩ := hb ws H' F' A' as st S' res
      obtain ⟨u, v, w, rfl⟩ := len3 hl
      exact ⟨u, v, w, rfl, by simpa [setAll] using hq⟩
  · exfalso
    obtain ⟨e, F, A, S, post⟩ := q
    apply hs
    cases hf : fSw G xs (evA M cl G n vs) e with
    | stuck => rw [hf] at post; exact post.elim
    | err _ _ _ => rw [hf] at post; exact post.no.elim
    | ok b =>
      unfold fSw at hf
      cases h1 : evA M cl G n vs e with
      | stuck => rw [h1] at hf; cases hf
      | err _ _ _ => rw [h1] at hf; cases hf
      | ok y =>
        rw [h1] at hf
        simp only [R.bind] at hf
        cases h2 : takes y.2 y.1 with
        | stuck => rw [h2] at hf; cases hf
        | err _ _ _ => rw [h2] at hf; cases hf
        | ok z =>
          rw [h2] at hf
          simp only at hf
          cases h3 : asgXs G xs z.1 z.2 with
          | stuck => rw [h3] at hf; cases hf
          | err _ _ _ => rw [h3] at hf; cases hf
          | ok w =>
            have : ∀ (xs : List Str) (ds : List D) (e e' : En), asgXs G xs ds e = .ok e' → ∀ x ∈ xs, (slotOf G.N x).isSome = true := by
              intro xs
              induction xs with
              | nil => intro ds e e' h x z; exact absurd z (by simp)
              | cons y r ih =>
                intro ds e e' h x z
                cases ds with
                | nil => simp only [asgXs] at h; cases h
                | cons d ds =>
                  simp only [asgXs] at h
                  cases q : asgN G y d e with
                  | err _ _ _ => rw [q] at h; cases h
                  | stuck => rw [q] at h; cases h
                  | ok e1 =>
                    rw [q] at h
                    obtain ⟨i, hs, _⟩ := asgN_some q
                    rcases List.mem_cons.mp z with w | w
                    · rw [w, hs]; rfl
                    · exact ih ds e1 e' h x w
            exact this xs _ _ _ h3
end
end Ev

set_option Elab.async false
set_option linter.all false
set_option maxRecDepth 100000
set_option maxHeartbeats 4000000
/-! Ev28: tuples into targets; op=; branches; loops. -/
namespace Ev
open PySem L2

section
variable {M : Gb} {cl : Cl} {G : Cn} {k : Nat} {W : WX} {X : Cx} {pos : Pos}
abbrev fTupT (ts : List Expr) (fa : En → R (List RV × En)) (fs : List D → En → R En) : En → R Fl := fun e => (fa e).bind fun (rs, e1) => (takes e1 rs).bind fun (ds, e2) => if lenOk ds.length then (fs ds e2).bind fun e3 => .ok (.nx e3) else .stuck
/-- a[0], b = x, y -/
theorem sS_tupT {n : Nat} {ts vs : List Expr} {j j2 : Nat} {p p2 : Pos} (g : Good M cl G k W X) (h : swap G ts vs = .no) (hlen : (ts.length == vs.length) = true) : PS X (.Assign [.Tuple ts j p] (.Tuple vs j2 p2) pos) (tS X.K X.mg G W (fTupT ts (evA M cl G n vs) (asgEach M cl G n ts))) := by
  refine ⟨fun pins s σ H E I q => ?_⟩
  have hw := (swapped_ok (ts := ts) (vs := vs) (j := j) (j2 := j2) (p := p) (p2 := p2) g I.ok.kind).1 h
  by_cases ht : tgOk ts = true
  · obtain ⟨w1, w2⟩ := tg_each (env := X.env) ht
    refine (ps_asg (pe_tup ((snd n).a g vs)) (pg_tup g.calm (sGsE (n := n) g ht) rfl w2) rfl hw rfl).run pins s σ H E I ?_
    obtain ⟨e, F, A, S, post⟩ := q
    unfold fTupT at post
    refine tA_of (T := []) S nilA post fun rvs e1 h1 vs' H1 F1 A1 as1 st1 st01 S1 res1 post => ?_
    have st01 : Step A H F (as1 ++ A1) H1 F1 := by simpa using st01
    cases htk : takes e1 rvs with
    | err _ _ _ => exact (takes_noerr htk).elim
    | stuck => simp only [htk, R.bind] at post; exact post.elim
    | ok y =>
      obtain ⟨ds, e2⟩ := y
      simp only [htk, R.bind] at post
      obtain ⟨F2, A2, as2, s2, S2, r2, n2, d2, _, _, _⟩ := takes_ok S1 res1 htk
      by_cases hl : lenOk ds.length = true
      · rw [if_pos hl] at post
        refine ⟨by rw [← r2.length]; exact of_decide_eq_true hl, fun a ha => ?_⟩
        cases hf : asgEach M cl G n ts ds e2 with
        | stuck => rw [hf] at post; exact post.elim
        | err _ _ _ => rw [hf] at post; exact post.no.elim
        | ok e3 =>
          rw [hf] at post
          have post : OkS X.K X.mg G σ A H F E (.nx e3) := post
          have hfr := S2.fresh ha
          have nA : ∀ b ∈ as2 ++ A2, b ≠ a := fun b z eq => by
            subst eq
            rcases List.mem_append.mp z with z | z
            · obtain ⟨o, ho⟩ := ReL.live _ _ _ r2 b z
              rw [ha] at ho; cases ho
            · exact S2.live z ha
          have kp : ∀ b ∈ as2 ++ A2, ∀ o, H1 b = some o → upd H1 a (.tup vs') b = some o := fun b z o q => by rw [upd_ne (nA b z)]; exact q
          have new := Step.new (B := as2 ++ A2) (F := F2) (o := .tup vs') ha
          have S3 : Sta X.K X.mg F2 (upd H1 a (.tup vs')) σ e2 A2 := S2.past (fun b o q => by rw [upd_ne (ne_of_none (S2.sub b o q) ha)]; exact S2.sub b o q) (Le.refl _) (fun b z o q => kp b (List.mem_append_right _ z) o q) S2.no
          have hlv : vs'.length = ts.length := by
            have : ∀ (ts : List Expr) (ds : List D) (e b : En), asgEach M cl G n ts ds e = .ok b → ds.length = ts.length := by
              intro ts
              induction ts with
              | nil => intro ds e b h; cases ds with
                | nil => rfl
                | cons _ _ => simp only [asgEach] at h; cases h
              | cons t r ih =>
                intro ds e b h
                cases ds with
                | nil => exact absurd h (asgEach_nil n t r e b)
                | cons d ds =>
                  cases t <;> first | (simp only [asgEach] at h; cases h; done) | skip
                  · rw [asgEach_sub] at h
                    cases q : asgI M cl G n _ _ d e with
                    | ok e1 => rw [q] at h; simp [ih ds e1 b h]
                    | err _ _ _ => rw [q] at h; cases h
                    | stuck => rw [q] at h; cases h
                  · rw [asgEach_name] at h
                    cases q : asgN G _ d e with
                    | ok e1 => rw [q] at h; simp [ih ds e1 b h]
                    | err _ _ _ => rw [q] at h; cases h
                    | stuck => rw [q] at h; cases h
            rw [← r2.length]; exact this ts ds e2 e3 hf
          refine ⟨a, vs', rfl, .inl (.inl upd_same), by rw [w1]; exact hlv, e2, F2, A2, ds, as2, S3, ReL.mono (Le.refl _) _ _ _ (fun b z o q => kp b (List.mem_append_left _ z) o q) r2, n2, d2, ?_⟩
          rw [hf]
          exact fun σ' H' F' A' st S' off => post σ' H' F' A' (((st01.trans s2).trans (new.less fun x z => List.mem_cons_of_mem _ z)).trans st) S' off
      · rw [if_neg hl] at post; exact post.elim
  · exfalso
    apply ht
    obtain ⟨e, F, A, S, post⟩ := q
    cases hf : fTupT ts (evA M cl G n vs) (asgEach M cl G n ts) e with
    | stuck => rw [hf] at post; exact post.elim
    | err _ _ _ => rw [hf] at post; exact post.no.elim
    | ok b =>
      unfold fTupT at hf
      cases h1 : evA M cl G n vs e with
      | stuck => rw [h1] at hf; cases hf
      | err _ _ _ => rw [h1] at hf; cases hf
      | ok y =>
        rw [h1] at hf
        simp only [R.bind] at hf
        cases h2 : takes y.2 y.1 with
        | stuck => rw [h2] at hf; cases hf
        | err _ _ _ => rw [h2] at hf; cases hf
        | ok z =>
          rw [h2] at hf
          simp only at hf
          split at hf
          · cases h3 : asgEach M cl G n ts z.1 z.2 with
            | stuck => rw [h3] at hf; cases hf
            | err _ _ _ => rw [h3] at hf; cases hf
            | ok w => exact asgEach_tg h3
          · cases hf
/-- x op= e -/
theorem ip_ok {op : Operator} : PIp X op (fun x y H Q => ∃ F a b as bs d, Rep X.K X.mg F H a x as ∧ Rep X.K X.mg F H b y bs ∧ binIp op a b = some d ∧ ∃ i, d = .int i ∧ Q (.int i) H) := by
  intro pins s σ H x y v u Q I rx ry ⟨F, a, b, as, bs, d, ra, rb, h, i, ed, q⟩
  cases op <;> first | (simp [binIp] at h; done) | skip
  all_goals
    cases a <;> first | (simp [binIp] at h; done) | skip
    cases b <;> first | (simp [binIp] at h; done) | skip
    simp only [binIp, Option.some.injEq] at h
    rw [← h] at ed
    cases ed
    simp only [Rep] at ra rb
  · exact ip_add pins s σ H x y v u Q I rx ry ⟨_, _, ra.1, rb.1, q⟩
  · exact ip_sub pins s σ H x y v u Q I rx ry ⟨_, _, ra.1, rb.1, q⟩
theorem binIp_int {op : Operator} {a b d : D} (h : binIp op a b = some d) : ∃ i, d = .int i := by
  unfold binIp at h
  split at h <;> first | (cases h; exact ⟨_, rfl⟩) | cases h
theorem setS_ok {i : Nat} {d : D} {e e' : En} (h : setS G i d e = .ok e') : G.bor.contains i = false ∧ i < e.length ∧ e' = e.set i (some d) := by
  unfold setS at h
  split at h
  · cases h
  · rename_i hb
    split at h
    · rename_i hi
      cases h
      exact ⟨by simpa using hb, hi, rfl⟩
    · cases h
theorem PostG.re {β : Type} {σ σ' : St} {B B' : List Addr} {H F H' F' : Hp} {r : R β} {φ : β → Prop} (h : PostG W σ B H F r φ) : PostG W σ' B' H' F' r φ := by
  cases r with
  | ok b => exact h
  | err _ _ _ => exact ⟨h.no⟩
  | stuck => exact h
abbrev fAug (G : Cn) (op : Operator) (i : Nat) (fe : En → R (RV × En)) : En → R Fl := fun e => (match getE e i with
        | some (.int o) => (fe e).bind fun (rv, e1) => (match content e1 rv with
          | some y => (ofO (binIp op (.int o) y)).bind fun d => (setS G i d e1).bind fun e2 => .ok (.nx e2)
          | none => .stuck)
        | _ => .stuck)
theorem sS_aug {x : Str} {px : Pos} {v : Expr} {op : Operator} {i : Nat} {fe : En → R (RV × En)} (g : Good M cl G k W X) (hs : slotOf G.N x = some i) (hl : G.loc x = true) (he : PE X v (tE X.K X.mg W fe)) : PS X (.AugAssign (.Name x px) op v pos) (tS X.K X.mg G W (fAug G op i fe)) := by
  obtain ⟨l1, l2⟩ := g.loc hl
  have hN : X.N.Nodup := by rw [g.N]; exact g.nd
  refine psi (ps_aug (ti := fun x y H Q => ∃ F a b as bs d, Rep X.K X.mg F H a x as ∧ Rep X.K X.mg F H b y bs ∧ binIp op a b = some d ∧ ∃ i, d = .int i ∧ Q (.int i) H) hN (g.at_ hs) l1 he ip_ok l2) fun E σ H ⟨e, F, A, S, post⟩ => ?_
  cases hg : getE e i with
  | none => simp only [fAug, hg] at post; exact post.elim
  | some old =>
    cases old <;> first | (simp only [fAug, hg] at post; exact post.elim) | skip
    rename_i o
    simp only [fAug, hg] at post
    obtain ⟨w, pre, a1, po, q1, q2, q3, _⟩ := EL.at S.el hg
    simp only [Rep] at q3
    refine ⟨w, q1, ?_⟩
    refine tE_of (T := []) S nilA post fun rv e1 h1 y H1 F1 A1 as1 st1 st01 S1 res1 post => ?_
    have st01 : Step A H F (as1 ++ A1) H1 F1 := by simpa using st01
    cases hc : content e1 rv with
    | none => simp only [hc] at post; exact post.elim
    | some z =>
      simp only [hc] at post
      obtain ⟨b1, rz, _⟩ := ResV.content S1 res1 hc
      cases hb : binIp op (.int o) z with
      | none => simp only [hb, ofO, R.bind] at post; exact post.elim
      | some d =>
        simp only [hb, ofO, R.bind] at post
        obtain ⟨r, ed⟩ := binIp_int hb
        subst ed
        refine ⟨F1, .int o, z, [], b1, .int r, by simp only [Rep]; exact ⟨q3.1, trivial⟩, rz, hb, r, rfl, ?_⟩
        cases hst : setS G i (.int r) e1 with
        | stuck => rw [hst] at post; exact post.elim
        | err _ _ _ => rw [hst] at post; exact post.no.elim
        | ok e2 =>
          rw [hst] at post
          obtain ⟨hbor, hi, ee⟩ := setS_ok hst
          subst ee
          have post : OkS X.K X.mg G σ A H F E (.nx (e1.set i (some (.int r)))) := post
          obtain ⟨A2, S2, sub2⟩ := S1.put (d := .int r) (v := .int r) (as := []) hi (by simp [Rep]) .nil fun a z => absurd z (by simp)
          exact post _ H1 F1 A2 (st01.less fun a z => List.mem_append_right _ (by simpa using sub2 a z)) S2 (Off.set _ ⟨x, hs, hl, hbor⟩)
/-! ### branches and loops -/
theorem sS_if {c : Expr} {a b : List Stmt} {fc : En → R (Bool × En)} {fa fb : En → R Fl} (hc : PT X c (tT X.K X.mg W fc)) (ha : PSs X a (tS X.K X.mg G W fa)) (hb : PSs X b (tS X.K X.mg G W fb)) : PS X (.If c a b pos) (tS X.K X.mg G W fun e => (fc e).bind fun (k, e1) => if k then fa e1 else fb e1) :=
  psi (ps_if hc ha hb) fun E σ H ⟨e, F, A, S, post⟩ => by
    refine tT_of (T := []) S nilA post fun c e1 h1 H1 F1 A1 st1 st01 S1 post => ?_
    cases c with
    | true =>
      rw [if_pos rfl]
      exact tS_past st1 S1 (Off.refl _ _) post
    | false =>
      rw [if_neg Bool.false_ne_true]
      exact tS_past st1 S1 (Off.refl _ _) post
theorem sSs_nil : PSs X [] (tS X.K X.mg G W fun e => .ok (.nx e)) := pssi pss_nil fun E σ H ⟨e, F, A, S, post⟩ => (show OkS X.K X.mg G σ A H F E (.nx e) from post) σ H F A stid S (Off.refl _ _)
abbrev fSeq (fa fr : En → R Fl) : En → R Fl := fun e => (fa e).bind fun
      | .nx e1 => fr e1
      | f => .ok f
theorem sSs_cons {st : Stmt} {r : List Stmt} {fa fr : En → R Fl} (ha : PS X st (tS X.K X.mg G W fa)) (hr : PSs X r (tS X.K X.mg G W fr)) : PSs X (st :: r) (tS X.K X.mg G W (fSeq fa fr)) :=
  pssi (pss_cons ha hr) fun E σ H ⟨e, F, A, S, post⟩ => by
    refine ⟨e, F, A, S, ?_⟩
    unfold fSeq at post
    cases q : fa e with
    | stuck => rw [q] at post; exact post
    | err _ _ _ => rw [q] at post; exact ⟨post.no⟩
    | ok fl =>
      rw [q] at post
      cases fl with
      | nx e1 => exact fun σ' H' F' A' st S' off => tS_past st S' off post
      | bk e1 => exact post
      | ct e1 => exact post
      | rt d e1 => exact post
/-- for .. in .. -/
theorem sS_for {tg iter : Expr} {body : List Stmt} {fi : En → R (List D × En)} {fb : En → R Fl} (g : Good M cl G k W X) (hi : PI X tg iter (tI X.K X.mg W fi)) (hb : PSs X body (tS X.K X.mg G W fb)) (hs : ∀ x, foldedSetIterable iter X.env x = pure x) :
    PS X (.For tg iter body [] pos) (tS X.K X.mg G W fun e => (fi e).bind fun (ds, e1) => forL (asgT G tg) fb ds e1) := psi (ps_for g.own g.calm hi (sG g tg) hb hs) fun E σ H ⟨e, F, A, S, post⟩ => by
  refine tI_of (T := []) S nilA' post fun ds e1 h1 J H1 F1 A1 st1 st01 S1 hJ post => ?_
  have st01 : Step A H F A1 H1 F1 := by simpa using st01
  let P : Nat → St → Hp → Prop := fun i σ' H' => ∃ e' F' A', Sta X.K X.mg F' H' σ' e' A' ∧ Step A H F A' H' F' ∧ Le F1 F' ∧ Off (LocS G) σ σ' ∧ PostG W σ A H F (forL (asgT G tg) fb (ds.drop i) e') (OkS X.K X.mg G σ A H F E)
  refine ⟨fun i m σ' H' => m = ds.length - i ∧ i ≤ ds.length ∧ P i σ' H', ⟨ds.length, by simp, Nat.zero_le _, e1, F1, A1, S1, st01, Le.refl _, Off.refl _ _, by simpa using post⟩, ?_⟩
  rintro i m σ' H' ⟨rfl, hi, e', F', A', S', st, l1, off, post⟩
  by_cases hlt : i < ds.length
  · right
    refine ⟨hJ.go i H' F' l1 S'.sub hlt, P (i + 1), fun σ2 H2 h2 => ⟨ds.length - (i + 1), by omega, rfl, hlt, h2⟩, fun x H2 hy => ?_⟩
    rw [drop_cons hlt] at post
    simp only [forL, R.bind_assoc] at post
    obtain ⟨F2, st2, sub2, rx⟩ := hJ.yld i H' F' x H2 ds[i] l1 S'.sub (List.getElem?_eq_getElem hlt) hy
    have live2 : ∀ a ∈ A', H' a ≠ none := fun a z => S'.live z
    have S2 : Sta X.K X.mg F2 H2 σ' e' A' := S'.past sub2 st2.le (fun a z o q => st2.keep a o q (by simp)) fun a z => by
      cases q : F2 a with
      | none => rfl
      | some o =>
        rcases st2.fr a (by rw [q]; simp) with y | y | y
        · exact absurd (S'.no a z) y
        · exact absurd y (by simp)
        · exact absurd y (live2 a z)
    have stt2 : Step A H F A' H2 F2 := by
      have := st2.frame A'
      rw [List.append_nil] at this
      exact st.trans this
    refine ⟨e', F2, A', ds[i], [], S2, rx, .nil, fun a z => absurd z (by simp), ?_⟩
    cases ha : asgT G tg ds[i] e' with
    | err _ _ _ => rw [ha] at post; exact ⟨post.no⟩
    | stuck => rw [ha] at post; exact post.elim
    | ok e2 =>
      rw [ha] at post
      simp only [R.bind] at post
      intro σ3 H3 F3 A3 st3 S3 off3
      have st3 : Step A' H2 F2 A3 H3 F3 := by simpa using st3
      refine ⟨e2, F3, A3, S3, ?_⟩
      have off03 := off.trans off3
      have l3 : Le F1 F3 := (l1.trans st2.le).trans st3.le
      cases hbd : fb e2 with
      | err _ _ _ => rw [hbd] at post; exact ⟨post.no⟩
      | stuck => rw [hbd] at post; exact post.elim
      | ok fl =>
        rw [hbd] at post
        cases fl with
        | nx e4 => exact fun σ4 H4 F4 A4 st4 S4 off4 => ⟨e4, F4, A4, S4, (stt2.trans st3).trans st4, l3.trans st4.le, off03.trans off4, post⟩
        | ct e4 => exact fun σ4 H4 F4 A4 st4 S4 off4 => ⟨e4, F4, A4, S4, (stt2.trans st3).trans st4, l3.trans st4.le, off03.trans off4, post⟩
        | bk e4 =>
          have post : OkS X.K X.mg G σ A H F E (.nx e4) := post
          exact fun σ4 H4 F4 A4 st4 S4 off4 => post σ4 H4 F4 A4 ((stt2.trans st3).trans st4) S4 (off03.trans off4)
        | rt d e4 =>
          have post : OkS X.K X.mg G σ A H F E (.rt d e4) := post
          exact fun σ4 v H4 F4 A4 as4 st4 S4 r nd dj off4 => post σ4 v H4 F4 A4 as4 ((stt2.trans st3).trans st4) S4 r nd dj (off03.trans off4)
  · left
    have hie : i = ds.length := by omega
    subst hie
    refine ⟨hJ.stop H' F' l1 S'.sub, ?_⟩
    rw [List.drop_length] at post
    simp only [forL] at post
    exact (show OkS X.K X.mg G σ A H F E (.nx e') from post) σ' H' F' A' st S' off
/-- while .. -/
theorem sS_while {c : Expr} {body : List Stmt} {fc : En → R (Bool × En)} {fb : En → R Fl} {n : Nat} (g : Good M cl G k W X) (hc : PT X c (tT X.K X.mg W fc)) (hb : PSs X body (tS X.K X.mg G W fb)) :
    PS X (.While c body [] pos) (tS X.K X.mg G W fun e => whileL fc fb n e) := psi (ps_while g.own hc hb) fun E σ H ⟨e, F, A, S, post⟩ => by
  let P : Nat → St → Hp → Prop := fun i σ' H' => ∃ e' F' A', Sta X.K X.mg F' H' σ' e' A' ∧ Step A H F A' H' F' ∧ Off (LocS G) σ σ' ∧ PostG W σ A H F (whileL fc fb i e') (OkS X.K X.mg G σ A H F E)
  refine ⟨P, ⟨n, e, F, A, S, stid, Off.refl _ _, post⟩, ?_⟩
  rintro m σ' H' ⟨e', F', A', S', st, off, post⟩
  cases m with
  | zero => simp only [whileL] at post; exact post.elim
  | succ m =>
    simp only [whileL] at post
    refine tT_of (T := []) S' nilA (PostG.re (σ' := σ') (B' := A') (H' := H') (F' := F') post) fun b e1 h1 H1 F1 A1 st1 st01 S1 post => ?_
    cases b with
    | false =>
      rw [if_neg Bool.false_ne_true]
      exact (show OkS X.K X.mg G σ A H F E (.nx e1) from post) σ' H1 F1 A1 (st.trans st1) S1 off
    | true =>
      rw [if_pos rfl]
      simp only [if_true] at post
      refine ⟨P m, fun σ2 H2 h2 => ⟨m, Nat.lt_succ_self m, h2⟩, e1, F1, A1, S1, ?_⟩
      cases hbd : fb e1 with
      | err _ _ _ => rw [hbd] at post; exact ⟨post.no⟩
      | stuck => rw [hbd] at post; exact post.elim
      | ok fl =>
        rw [hbd] at post
        cases fl with
        | nx e4 => exact fun σ4 H4 F4 A4 st4 S4 off4 => ⟨e4, F4, A4, S4, (st.trans st1).trans st4, off.trans off4, PostG.re post⟩
        | ct e4 => exact fun σ4 H4 F4 A4 st4 S4 off4 => ⟨e4, F4, A4, S4, (st.trans st1).trans st4, off.trans off4, PostG.re post⟩
        | bk e4 =>
          have post : OkS X.K X.mg G σ A H F E (.nx e4) := post
          exact fun σ4 H4 F4 A4 st4 S4 off4 => post σ4 H4 F4 A4 ((st.trans st1).trans st4) S4 (off.trans off4)
        | rt d e4 =>
          have post : OkS X.K X.mg G σ A H F E (.rt d e4) := post
          exact fun σ4 v H4 F4 A4 as4 st4 S4 r nd dj off4 => post σ4 v H4 F4 A4 as4 ((st.trans st1).trans st4) S4 r nd dj (off.trans off4)
end
end Ev

set_option Elab.async false
set_option linter.all false
set_option maxRecDepth 100000
set_option maxHeartbeats 8000000
/-! Ev29: any statement. -/
namespace Ev
open PySem L2

section
variable {M : Gb} {cl : Cl} {G : Cn} {k : Nat} {W : WX} {X : Cx} {pos : Pos}
theorem forset_st {n : Nat} {tg : Expr} {es : List Expr} {j : Nat} {p : Pos} {β : Type} {f : List D × En → R β} (e : En) : ((evI M cl G n tg (.Set es j p) e).bind f) = .stuck := by rw [evI_set]; rfl
theorem snd_s (g : Good M cl G k W X) (w : Nat) : ∀ n, (∀ st, PS X st (tS X.K X.mg G W (evS M cl G w n st))) ∧ (∀ ss, PSs X ss (tS X.K X.mg G W (evSs M cl G w n ss)))
  | 0 => ⟨fun st => ⟨fun _ _ _ _ _ _ ⟨_, _, _, _, post⟩ => by unfold evS at post; exact post.elim⟩, fun ss => ⟨fun _ _ _ _ _ _ ⟨_, _, _, _, post⟩ => by unfold evSs at post; exact post.elim⟩⟩
  | n + 1 => by
    obtain ⟨ihs, ihb⟩ := snd_s g w n
    have ee := fun x => (snd (M := M) (cl := cl) w).e g x
    refine ⟨fun st => ⟨fun pins s σ H E I ⟨e, F, A, S, post⟩ => ?_⟩, fun ss => ?_⟩
    · unfold evS at post
      split at post
      · exact sS_pass.run pins s σ H E I ⟨e, F, A, S, post⟩
      · exact sS_break.run pins s σ H E I ⟨e, F, A, S, post⟩
      · exact sS_cont.run pins s σ H E I ⟨e, F, A, S, post⟩
      · exact sS_retN.run pins s σ H E I ⟨e, F, A, S, post⟩
      · exact (sS_ret (ee _)).run pins s σ H E I ⟨e, F, A, S, post⟩
      · rename_i o m ap a cp p _
        by_cases hm : (m == "append" && ap.endLine == cp.line && noStar [a]) = true
        · rw [if_pos hm] at post
          simp only [Bool.and_eq_true] at hm
          have em : m = "append" := eq_of_beq hm.1.1
          subst em
          rcases base_or o "append" X.env with ⟨f, p1, p2, eo⟩ | hb
          · subst eo
            exfalso
            have hz : ∀ (m : Nat) (e : En), evE M cl G m (.Call (.Name f p1) [] [] p2) e = .stuck := fun m e => by
              cases m with
              | zero => unfold evE; rfl
              | succ m => unfold evE; rfl
            cases w with
            | zero => simp only [evO, R.bind] at post; exact post.elim
            | succ w => simp only [evO, hz, R.bind] at post; exact post.elim
          · exact (sS_app ((snd w).o g o) (ee a) (evO_flat w o) hb hm.2 hm.1.2).run pins s σ H E I ⟨e, F, A, S, post⟩
        · rw [if_neg hm] at post; exact post.elim
      · exact (sS_expr (ee _) rfl).run pins s σ H E I ⟨e, F, A, S, post⟩
      · exact (sS_asg g).run pins s σ H E I ⟨e, F, A, S, post⟩
      · rename_i ts j tp v p _
        split at post
        · rename_i vs j2 p2 _
          split at post
          · rename_i xs hsw
            exact (sS_swap g hsw).run pins s σ H E I ⟨e, F, A, S, post⟩
          · rename_i hsw
            by_cases hl : (ts.length == vs.length) = true
            · rw [if_pos hl] at post
              exact (sS_tupT g hsw hl).run pins s σ H E I ⟨e, F, A, S, post⟩
            · rw [if_neg hl] at post; exact post.elim
          · exact post.elim
        · rename_i hv
          exact (sS_tupV g fun vs j p q => hv vs j p q).run pins s σ H E I ⟨e, F, A, S, post⟩
      · exact (sS_asgI g).run pins s σ H E I ⟨e, F, A, S, post⟩
      · rename_i x px op v p _
        split at post
        · rename_i i hs
          by_cases hl : G.loc x = true
          · rw [if_pos hl] at post
            exact (sS_aug g hs hl (ee v)).run pins s σ H E I ⟨e, F, A, S, post⟩
          · rw [if_neg hl] at post; exact post.elim
        · exact post.elim
      · exact (sS_if ((snd w).t g _) (ihb _) (ihb _)).run pins s σ H E I ⟨e, F, A, S, post⟩
      · rename_i tg iter body p _
        rcases isset_or iter with ⟨es, j, p', eq⟩ | hs
        · subst eq
          rw [forset_st] at post
          exact post.elim
        · exact (sS_for g ((snd w).i g tg iter) (ihb body) (hs X.env)).run pins s σ H E I ⟨e, F, A, S, post⟩
      · exact (sS_while g ((snd w).t g _) (ihb _)).run pins s σ H E I ⟨e, F, A, S, post⟩
      · exact post.elim
    · cases ss with
      | nil =>
        have : evSs M cl G w (n + 1) [] = fun e => .ok (.nx e) := by funext e; unfold evSs; rfl
        rw [this]
        exact sSs_nil
      | cons st r =>
        have : evSs M cl G w (n + 1) (st :: r) = fSeq (evS M cl G w n st) (evSs M cl G w n r) := by
          funext e
          conv => lhs; unfold evSs
          all_goals rfl
        rw [this]
        exact sSs_cons (ihs st) (ihb r)
end
end Ev

set_option Elab.async false
set_option linter.all false
set_option maxRecDepth 100000
set_option maxHeartbeats 8000000
/-! Ev30: defs. -/
namespace Ev
open PySem L2
open PyProof.Rows (envOfC)

section
variable {K : PySem.W.Frag} {mg : Str → Option Value} {F H : Hp}
theorem EL.more (n : Nat) : ∀ {ds : List D} {vs : List V} {A : List Addr}, EL K mg F H (ds.map some) (vs.map some) A → EL K mg F H (ds.map some ++ List.replicate n none) (vs.map some ++ List.replicate n none) A
  | [], vs, A, h => by
    simp only [List.map_nil, EL, List.map_eq_nil_iff] at h
    obtain ⟨h1, h2⟩ := h
    subst h1; subst h2
    simp only [List.map_nil, List.nil_append]
    induction n with
    | zero => simp [EL]
    | succ n ih => rw [List.replicate_succ, List.replicate_succ]; simp only [EL]; exact ⟨none, _, rfl, ih⟩
  | d :: ds, vs, A, h => by
    simp only [List.map_cons, EL] at h
    obtain ⟨v, r, a1, a2, ev, ea, h1, h2⟩ := h
    cases vs with
    | nil => cases ev
    | cons w vs =>
      simp only [List.map_cons, List.cons.injEq, Option.some.injEq] at ev
      obtain ⟨e1, e2⟩ := ev
      subst e1; subst e2
      simp only [List.map_cons, List.cons_append, EL]
      exact ⟨w, _, a1, a2, rfl, ea, h1, EL.more n h2⟩
theorem EL.len : ∀ {e : En} {σ : St} {A : List Addr}, EL K mg F H e σ A → σ.length = e.length
  | [], σ, A, h => by simp only [EL] at h; rw [h.1]; rfl
  | none :: e, σ, A, h => by
    simp only [EL] at h
    obtain ⟨o, r, es, h⟩ := h
    rw [es, List.length_cons, List.length_cons, EL.len h]
  | some d :: e, σ, A, h => by
    simp only [EL] at h
    obtain ⟨v, r, a1, a2, es, _, _, h⟩ := h
    rw [es, List.length_cons, List.length_cons, EL.len h]
theorem EL.nones : ∀ (ds : List D) (vs : List V), vs.length = ds.length → EL K mg F H (outsOf ds []) (vs.map some) []
  | [], vs, h => by
    have : vs = [] := List.length_eq_zero_iff.mp h
    subst this
    simp [outsOf, EL]
  | d :: ds, [], h => by simp at h
  | d :: ds, v :: vs, h => by
    simp only [outsOf, List.map_cons, EL]
    exact ⟨some v, _, rfl, EL.nones ds vs (by simpa using h)⟩
/-- what is given back -/
theorem EL.outs : ∀ {ds : List D} {vs : List V} {e : En} {σ : St} {A : List Addr}, EL K mg F H e σ A → A.Nodup → vs.length = ds.length → (∀ (j : Nat) (d : D), ds[j]? = some d → owned d = true → ∀ v, vs[j]? = some v → σ[j]? = some (some v)) →
    ∃ A', EL K mg F H (outsOf ds e) (vs.map some) A' ∧ A'.Nodup ∧ ∀ a ∈ A', a ∈ A
  | [], vs, e, σ, A, h, nd, hl, hv => by
    have : vs = [] := List.length_eq_zero_iff.mp hl
    subst this
    exact ⟨[], by simp [outsOf, EL], .nil, fun a z => absurd z (by simp)⟩
  | d :: ds, [], e, σ, A, h, nd, hl, hv => by simp at hl
  | d :: ds, v :: vs, [], σ, A, h, nd, hl, hv => ⟨[], EL.nones (d :: ds) (v :: vs) hl, .nil, fun a z => absurd z (by simp)⟩
  | d :: ds, v :: vs, none :: e, σ, A, h, nd, hl, hv => by
    simp only [EL] at h
    obtain ⟨o, r, es, h⟩ := h
    subst es
    obtain ⟨A', h1, h2, h3⟩ := EL.outs (ds := ds) (vs := vs) h nd (by simpa using hl) fun j d' hj ho v' hv' => by
      have := hv (j + 1) d' (by simpa using hj) ho v' (by simpa using hv')
      simpa using this
    refine ⟨A', ?_, h2, h3⟩
    have : (if owned d = true then (none : Option D) else none) = none := by split <;> rfl
    simp only [outsOf, this, List.map_cons, EL]
    exact ⟨some v, _, rfl, h1⟩
  | d :: ds, v :: vs, some d0 :: e, σ, A, h, nd, hl, hv => by
    simp only [EL] at h
    obtain ⟨w, r, a1, a2, es, ea, h1, h2⟩ := h
    subst es; subst ea
    obtain ⟨n1, n2, n3⟩ := List.nodup_append.mp nd
    obtain ⟨A', q1, q2, q3⟩ := EL.outs (ds := ds) (vs := vs) h2 n2 (by simpa using hl) fun j d' hj ho v' hv' => by
      have := hv (j + 1) d' (by simpa using hj) ho v' (by simpa using hv')
      simpa using this
    by_cases ho : owned d = true
    · have hw := hv 0 d (by simp) ho v (by simp)
      simp only [List.getElem?_cons_zero, Option.some.injEq] at hw
      subst hw
      refine ⟨a1 ++ A', ?_, List.nodup_append.mpr ⟨n1, q2, fun a z b y => n3 a z b (q3 b y)⟩, fun a z => ?_⟩
      · simp only [outsOf, ho, if_true, List.map_cons, EL]
        exact ⟨w, _, a1, A', rfl, rfl, h1, q1⟩
      · rcases List.mem_append.mp z with z | z
        · exact List.mem_append_left _ z
        · exact List.mem_append_right _ (q3 a z)
    · refine ⟨A', ?_, q2, fun a z => List.mem_append_right _ (q3 a z)⟩
      simp only [outsOf, if_neg ho, List.map_cons, EL]
      exact ⟨some v, _, rfl, q1⟩
end

/-- the state of a def's entry, an exception within -/
theorem fnG_of {CX : CXT} {P : Program} {w : World} {K : PySem.W.Frag} {mg : Str → Option Value} {base : Heap} {k : Nat} {f : Addr} {name qual : Str} {params : Arguments} {body : List Stmt} {scope : Scope} {dV kV doc pm cdv ct oc : Value} {an od : Option Addr}
    {osl : Array (Option Value)} {N ps : List Str} {sp : Sp} (lk : K.lookup f = some ⟨oc, od, .func (PySem.W.fnOf name qual params body scope dV kV doc pm an cdv ct), osl⟩) (hcd : PySem.W.codeIn K cdv qual = true) (S : FnScope N ps scope)
    (len : ∀ vs H Q E, sp vs H Q E → vs.length = ps.length)
    (inner : ∀ (A : Around) (outer : List PySem.Env) (s : Shared) (H : Hp) (vs : List V) (Q : VK) (E : XK), A.guards = some [] → Room k (A.deeper (envOfC qual scope s.heap.objs.size f cdv)) → sp vs H Q E →
      ∃ t, PSs (cxOf CX P w K mg base N qual scope f cdv A outer s H E) body t ∧ t { nx := fun _ H' => Q .non H', rt := Q } (start N vs) H) :
    FnG P w K mg base CX (k + 1) f (PySem.W.fnOf name qual params body scope dV kV doc pm an cdv ct) ps sp where
  len := len
  run A outer s H args us vs Q E hr hgd e0 hb r hsp := by
    have keepB : ∀ b o, base.get? b = some o → s.heap.get? b = some o := fun b o e => (e0.bs b o e).1
    have KX := e0.mod.kin.keeps keepB
    have kinds : ∀ y ∈ ps.zip us, scope.names.lookup y.1 = some .local ∨ (scope.names.lookup y.1 = some .cell ∧ ((cellsFrom (s.heap.objs.size + 1) scope.names []).lookup y.1).isSome = true) := by
      rintro ⟨n, v⟩ hy
      exact (S.par n (List.of_mem_zip hy).1).imp id fun q => ⟨q, PySem.W.cellsFrom_some _ _ _ (.inl q)⟩
    refine codeAny_call_function hr.depth (KX _ _ lk) rfl S.co S.gen rfl (PySem.W.codeRec_of KX hcd) (hb _ _ _ _ (wpAny_newFunctionEnv_cells S.kind kinds fun env he s1 x => ?_))
    subst he
    refine ⟨(e0.mod.nolimit.keeps keepB).keeps x.toInCall.keep, codeAny_func ?_⟩
    obtain ⟨t, ht, hq⟩ := inner A outer s H vs Q E hgd (hr.deeper _) hsp
    refine wpAny_mono (ht.run [] s1 _ H _ (inv_start S hr.hd e0 (len _ _ _ _ hsp) r x) hq) (fun fl s' hs => ?_) fun e s' hs => hs
    cases fl with
    | next => obtain ⟨_, H', J, q⟩ := hs; exact ⟨V.non, H', J.os, J.bare, J.base, J.hok, rfl, q⟩
    | ret u => obtain ⟨v, _, H', J, rv, q⟩ := hs; exact ⟨v, H', J.os, J.bare, J.base, J.hok, rv, q⟩
    | brk => obtain ⟨_, _, _, q⟩ := hs; exact q.elim
    | cont => obtain ⟨_, _, _, q⟩ := hs; exact q.elim

/-- what is known of a def of the text -/
structure DfOk (K : PySem.W.Frag) (mg : Str → Option Value) (f : Str) (df : Df) (fa : Addr) (fd : FuncData) (ps : List Str) : Prop where
  mgf : mg f = some (.ref fa)
  keep : PySem.W.keepIn K (.ref fa) = true
  binds : Binds K fd ps []
  text : ∃ (name qual : Str) (params : Arguments) (dV kV doc pm cdv ct oc : Value) (an od : Option Addr) (osl : Array (Option Value)), fd = PySem.W.fnOf name qual params (defBody df.st) (defScope df.st) dV kV doc pm an cdv ct ∧ K.lookup fa = some ⟨oc, od, .func fd, osl⟩ ∧ PySem.W.codeIn K cdv qual = true
  scope : FnScope df.N ps (defScope df.st)
  np : ps.length = df.np
  nn : ∀ x ∈ df.N, (x == ("__debug__" : Str)) = false ∧ (x == ("__classdict__" : Str)) = false
structure TabOk (M : Gb) (T : List (Str × Df)) (K : PySem.W.Frag) (mg : Str → Option Value) : Prop where
  mod : ModOk M K mg
  defs : ∀ f, M.defs.contains f = true → ∃ df fa fd ps, T.lookup f = some df ∧ DfOk K mg f df fa fd ps
theorem bor_of {ds : List D} {j : Nat} {d : D} (h : ds[j]? = some d) (ho : owned d = true) : (borOf ds).contains j = true := by
  rw [List.contains_iff_mem]
  unfold borOf
  rw [List.mem_filter]
  exact ⟨List.mem_range.mpr (List.getElem?_eq_some_iff.mp h).1, by rw [h]; exact ho⟩
/-- every def does at every level what the evaluator says -/
theorem lev_ok {M : Gb} {T : List (Str × Df)} {P : Program} {w : World} {K : PySem.W.Frag} {mg : Str → Option Value} {base : Heap} (tab : TabOk M T K mg) : ∀ (k : Nat) (f : Str) (df : Df) (fa : Addr) (fd : FuncData) (ps : List Str), T.lookup f = some df → DfOk K mg f df fa fd ps →
    FnG P w K mg base (L2.CX P w) k fa fd ps (spC K mg (lev M T k) f)
  | 0, f, df, fa, fd, ps, ht, h => ⟨fun vs H Q E ⟨ds, F, A, S, q⟩ => q.elim, fun A outer s H args us vs Q E hr hg e0 hb r ⟨ds, F, A', S, q⟩ => q.elim⟩
  | k + 1, f, df, fa, fd, ps, ht, h => by
    obtain ⟨name, qual, params, dV, kV, doc, pm, cdv, ct, oc, an, od, osl, efd, lk, hcd⟩ := h.text
    have hlev : ∀ ds, lev M T (k + 1) f ds = runDef M (lev M T k) df ds := fun ds => by
      conv => lhs; unfold lev
      rw [ht]
    have hlen : ∀ vs H Q E, spC K mg (lev M T (k + 1)) f vs H Q E → vs.length = ps.length := fun vs H Q E ⟨ds, F, A, S, q⟩ => by
      rw [hlev] at q
      have e1 := EL.len S.el
      rw [List.length_map, List.length_map] at e1
      rw [e1, h.np]
      unfold runDef at q
      by_cases hn : ds.length ≠ df.np
      · rw [if_pos hn] at q; exact q.elim
      · simpa using hn
    subst efd
    refine fnG_of lk hcd h.scope hlen fun A outer s H vs Q E hgd hr hsp => ?_
    have hvl := hlen _ _ _ _ hsp
    obtain ⟨ds, F, A0, S, q⟩ := hsp
    have e1 := EL.len S.el
    rw [List.length_map, List.length_map] at e1
    rw [hlev] at q
    unfold runDef at q
    have hn : ¬ ds.length ≠ df.np := by rw [← e1, hvl, h.np]; simp
    rw [if_neg hn] at q
    let G : Cn := { N := df.N, sc := defScope df.st, fnc := fun _ => true, bor := borOf ds }
    let X : Cx := cxOf (L2.CX P w) P w K mg base df.N qual (defScope df.st) fa cdv A outer s H E
    let W : WX := fun cls d _ H => E cls d H
    have good : Good M (lev M T k) G k W X := {
      N := rfl
      sc := rfl
      fn := rfl
      nd := h.scope.nd
      nn := h.nn
      mod := tab.mod
      calm := rfl
      room := hr
      guards := hgd
      takes := takes_of rfl rfl rfl rfl
      own := passes_of rfl
      calls := fun f' hf' => by
        obtain ⟨df', fa', fd', ps', ht', h'⟩ := tab.defs f' hf'
        exact ⟨fa', fd', ps', h'.mgf, h'.keep, h'.binds, lev_ok tab k f' df' fa' fd' ps' ht' h'⟩ }
    refine ⟨_, (snd_s good 60 200).2 (defBody df.st), ds.map some ++ List.replicate (df.N.length - ds.length) none, F, A0, ⟨S.sub, ?_, S.nd, S.no⟩, ?_⟩
    · unfold L2.start
      rw [e1]
      exact EL.more _ S.el
    · -- what the body leaves
      have back : ∀ {e : En} {σ' : St} {H' F' : Hp} {A' : List Addr}, Sta K mg F' H' σ' e A' → Off (LocS G) (start df.N vs) σ' → ∃ A2, Sta K mg F' H' (vs.map some) (outsOf ds e) A2 ∧ ∀ a ∈ A2, a ∈ A' := fun {e σ' H' F' A'} S' off => by
        obtain ⟨A2, h1, h2, h3⟩ := EL.outs (ds := ds) (vs := vs) S'.el S'.nd e1 fun j d hj ho v hv => by
          rw [off.2 j fun ⟨x, _, _, hb⟩ => by
            have hb : (borOf ds).contains j = false := hb
            rw [bor_of hj ho] at hb; cases hb]
          unfold L2.start
          have hlt : j < vs.length := (List.getElem?_eq_some_iff.mp hv).1
          rw [List.getElem?_append_left (by simpa using hlt), List.getElem?_map, hv]
          rfl
        exact ⟨A2, ⟨S'.sub, h1, h2, fun a z => S'.no a (h3 a z)⟩, h3⟩
      show PostG W _ A0 H F (evSs M (lev M T k) G 60 200 (defBody df.st) (ds.map some ++ List.replicate (df.N.length - ds.length) none)) _
      cases hev : evSs M (lev M T k) G 60 200 (defBody df.st) (ds.map some ++ List.replicate (df.N.length - ds.length) none) with
      | stuck => rw [show evSs M (lev M T k) { N := df.N, sc := defScope df.st, fnc := fun _ => true, bor := borOf ds } 60 200 (defBody df.st) (ds.map some ++ List.replicate (df.N.length - ds.length) none) = _ from hev] at q; exact q.elim
      | err c fs e => rw [show evSs M (lev M T k) { N := df.N, sc := defScope df.st, fnc := fun _ => true, bor := borOf ds } 60 200 (defBody df.st) (ds.map some ++ List.replicate (df.N.length - ds.length) none) = _ from hev] at q; exact q.elim
      | ok fl =>
        rw [show evSs M (lev M T k) { N := df.N, sc := defScope df.st, fnc := fun _ => true, bor := borOf ds } 60 200 (defBody df.st) (ds.map some ++ List.replicate (df.N.length - ds.length) none) = _ from hev] at q
        cases fl with
        | nx e =>
          intro σ' H' F' A' st S' off
          obtain ⟨A2, S2, sub⟩ := back S' off
          exact q .non H' F' A2 [] (st.less fun a z => sub a (by simpa using z)) S2 (by simp [Rep]) .nil fun a z => absurd z (by simp)
        | rt d e =>
          intro σ' v H' F' A' as st S' r nd dj off
          obtain ⟨A2, S2, sub⟩ := back S' off
          refine q v H' F' A2 as (st.less fun a z => ?_) S2 r nd fun a z => ⟨fun y => (dj a z).1 (sub a y), (dj a z).2⟩
          rcases List.mem_append.mp z with z | z
          · exact List.mem_append_left _ z
          · exact List.mem_append_right _ (sub a z)
        | bk e => exact q.elim
        | ct e => exact q.elim
end Ev

set_option Elab.async false
set_option linter.all false
set_option maxRecDepth 100000
set_option maxHeartbeats 4000000
/-! Ev31: a law's call, no repr under way. -/
namespace Ev
open PySem L2 PySem.Spec
open PyProof.Rows hiding St

section
variable {P : Program} {w : World} {K : PySem.W.Frag} {mg mb : Str → Option Value} {CX : CXT} {k : Nat} {fa a : Addr} {fd : FuncData} {x : Str} {sp : Sp} {s₁ : Shared} {vs : List Value} {ns : List Int}
/-- the end that the judge asks for -/
abbrev EndT (s₁ : Shared) : Result → Shared → Prop := fun r s' => r = .ok (.ret (.bool true)) ∧ OldK s₁.heap s'.heap ∧ s'.os = s₁.os ∧ AllBare s'.gens
/-- the script's heap: nothing else is known -/
def Hsc (a : Addr) (vs : List Value) (ns : List Int) : Hp := fun b => if b = a then some (.frz { cls := .type "list", data := .seq vs.toArray } (.lst (ns.map V.int))) else none
theorem law_callH (KX : K.In s₁.heap) (hns : s₁.heap.Ns mainGlobals mg) (hb : s₁.heap.Ns builtinsNs mb) (hbb : ∀ x : Str, x ≠ "__name__" → mb x = bootBuiltins x) (hlim : s₁.heap.NoLimit) (hg : s₁.gens = #[])
    (hr : Room k callerA) (F : ∀ base : Heap, K.In base → base.Ns mainGlobals mg → FnG P w K mg base CX k fa fd [x] sp) (hbind : ∀ (s : Shared) (u : Value), BindsTo s fd ⟨[u], []⟩ [(x, u)])
    (hCX : ∀ H e s', CX [] H s₁ (fun _ _ _ => False) e s' → False)
    (H : Hp) (hO : Only H) (promise : sp [.ref a] H (fun v _ => v = .bl true) fun _ _ _ => False) (hok : HOk P w H s₁.heap)
    (hK : ∀ b ob, K.lookup b = some ob → H b = none) (hD : ∀ b o es ep, s₁.heap.get? b = some o → o.data = .dict es ep → H b = none) : codeAny (model P w) callerA (.call (.ref fa) ⟨[.ref a], []⟩) (EndT s₁) s₁ := by
  have nsB : ∀ {b : Addr} {m : Str → Option Value}, s₁.heap.Ns b m → (hidT s₁.heap H).Ns b m := by
    rintro b m ⟨o, es, ep, e, d, r⟩
    exact ⟨o, es, ep, hidT_get e (hD b o es ep e d), d, r⟩
  have KB : K.In (hidT s₁.heap H) := fun b o e => hidT_get (KX b o e) (hK b o e)
  obtain ⟨mc, c1, c2⟩ := hlim
  have e0 : Env0 P w K mg (hidT s₁.heap H) callerA [] s₁ H := {
    frames := rfl
    mod := ⟨KB, nsB hns, ⟨mb, nsB hb, hbb⟩, ⟨mc, nsB c1, c2⟩⟩
    bs := fun b o e => of_hidT e
    bsz := Nat.le_of_eq (hidT_size _ _)
    funs := trivial
    frf := by intro b hb; exact absurd hb (by simp [frs])
    hok := hok
    bare := .of_eq hg }
  have run := (F _ KB (nsB hns)).run callerA [] s₁ H ⟨[.ref a], []⟩ [.ref a] [.ref a] _ _ hr rfl e0 (hbind s₁ (.ref a)) (.cons rfl .nil) promise
  refine codeAny_mono run fun r s' h => ?_
  match r, h with
  | .error e, h => exact (hCX H e s' h).elim
  | .ok .next, h => exact h.elim
  | .ok .brk, h => exact h.elim
  | .ok .cont, h => exact h.elim
  | .ok (.ret u), ⟨v, H', os, bare, un, hok', r', q⟩ =>
    have hu : u = Value.bool true := by
      have q' : v = .bl true := q
      rw [q'] at r'
      exact r'
    refine ⟨by rw [hu], OldK.of_keep fun b o e => ?_, os, bare⟩
    rcases hO b with z | ⟨ob, xs, z⟩
    · exact un.keep b o e z (fun y => by simp [frs] at y) (by simp)
    · have f1 := (hok b _ z).1
      have f2 := (hok' b _ (un.frzs b ob _ z)).1
      have : o = ob := Option.some.inj (e.symm.trans f1)
      rw [this]; exact f2
theorem law_callG (KX : K.In s₁.heap) (hns : s₁.heap.Ns mainGlobals mg) (hb : s₁.heap.Ns builtinsNs mb) (hbb : ∀ x : Str, x ≠ "__name__" → mb x = bootBuiltins x) (hlim : s₁.heap.NoLimit) (hg : s₁.gens = #[])
    (ha : s₁.heap.get? a = some { cls := .type "list", data := .seq vs.toArray }) (hi : IntsAre vs ns) (hl : ns.length ≤ sizeLine) (hr : Room k callerA)
    (F : ∀ base : Heap, K.In base → base.Ns mainGlobals mg → FnG P w K mg base CX k fa fd [x] sp) (hbind : ∀ (s : Shared) (u : Value), BindsTo s fd ⟨[u], []⟩ [(x, u)])
    (hsp : ∀ H : Hp, Only H → SqL K H a (ns.map V.int) → sp [.ref a] H (fun v _ => v = .bl true) fun _ _ _ => False)
    (hCX : ∀ H e s', CX [] H s₁ (fun _ _ _ => False) e s' → False) :
    codeAny (model P w) callerA (.call (.ref fa) ⟨[.ref a], []⟩) (EndT s₁) s₁ := by
  have rv := vals_ints hi
  cases hk : K.lookup a with
  | some o =>
    have e := (KX a o hk).symm.trans ha
    cases e
    have hO : Only (fun _ => none) := fun _ => .inl rfl
    refine law_callH KX hns hb hbb hlim hg hr F hbind hCX (fun _ => none) hO (hsp _ hO (.inr ⟨_, vs.toArray, _, hk, rfl, rfl, rfl, ?_, by simpa using rv⟩)) (fun b u z => nomatch z) (fun _ _ _ => rfl) fun _ _ _ _ _ _ => rfl
    rw [List.size_toArray, hi.length]
    exact hl
  | none =>
    have hO : Only (Hsc a vs ns) := fun b => by
      by_cases h : b = a
      · exact .inr ⟨_, _, if_pos h⟩
      · exact .inl (if_neg h)
    have only : ∀ b u, Hsc a vs ns b = some u → b = a ∧ u = .frz { cls := .type "list", data := .seq vs.toArray } (.lst (ns.map V.int)) := fun b u z => by
      unfold Hsc at z
      split at z
      · rename_i h; exact ⟨h, (Option.some.inj z).symm⟩
      · cases z
    have no : ∀ b, b ≠ a → Hsc a vs ns b = none := fun b h => if_neg h
    refine law_callH KX hns hb hbb hlim hg hr F hbind hCX _ hO (hsp _ hO (.inl (.inr ⟨_, if_pos rfl⟩))) (fun b u z => ?_) (fun b ob z => no b ?_) fun b o es ep z d => no b ?_
    · obtain ⟨e1, e2⟩ := only b u z
      subst e1; subst e2
      exact ⟨ha, by rw [List.length_map]; exact hl, vs, _, rv, ha⟩
    · rintro rfl; rw [hk] at z; cases z
    · rintro rfl
      have e := z.symm.trans ha
      rw [Option.some.inj e] at d
      exact nomatch d
end
/-- a law from its def's promise -/
theorem walk_ofG {l : PySem.W.OpenLaw} {n k : Nat} {q : Program} {loose : List Str} {XP : (Str → Option Value) → Heap → Prop} {YP : World → Heap → Prop} {d : DefRec} {K : Params → PySem.W.Frag} {CX : World → CXT} {sp : World → (Str → Option Value) → Sp} {x : Str}
    (hn : l.most = some n) (hn2 : n ≤ sizeLine) (hdf : d.params.defaults = []) (hr : Room k callerA) (hY : ∀ (w : World) (h : Heap), YP w h → (K w.params).In h)
    (F : ∀ (w : World) (mg : Str → Option Value) (fa : Addr) (h : Heap), (K w.params).In h → h.Ns mainGlobals mg → mg d.name = some (.ref fa) →
      ∃ fd : FuncData, (∀ (s : Shared) (u : Value), BindsTo s fd ⟨[u], []⟩ [(x, u)]) ∧ ∀ base : Heap, (K w.params).In base → base.Ns mainGlobals mg → FnG l.prog w (K w.params) mg base (CX w) k fa fd [x] (sp w mg))
    (hsp : ∀ (w : World) (mg : Str → Option Value) (H : Hp) (a : Addr) (ns : List Int), ns.length ≤ n → Only H → SqL (K w.params) H a (ns.map V.int) → sp w mg [.ref a] H (fun v _ => v = .bl true) fun _ _ _ => False)
    (hCX : ∀ (w : World) (H : Hp) (s : Shared) (e : Value) (s' : Shared), CX w [] H s (fun _ _ _ => False) e s' → False) :
    PySem.W.WalkO q loose XP YP l.row.toRowW d [] (fun f vs => PySem.call f vs) := by
  refine Att.attach_call hn hdf fun w s₀ s₁ mg mb fa o pm cd doc a vs ns G Y ho hd hcd hmg hobj hints hlen hg => ?_
  obtain ⟨fd, hb, hF⟩ := F w mg fa _ (hY w _ Y) G.T.g hmg
  exact law_callG (hY w _ Y) G.T.g G.T.b G.T.builtins G.T.nolimit hg hobj hints (Nat.le_trans hlen hn2) hr hF hb (fun H hO hS => hsp w mg H a ns hlen hO hS) fun H e s' => hCX w H s₁ e s'
/-- the script as a datum -/
theorem spC_law {K : PySem.W.Frag} {mg : Str → Option Value} {cl : Cl} {f : Str} {ns : List Int} {H : Hp} {a : Addr} (hs : SqL K H a (ns.map V.int)) (hc : ∃ outs, cl f [.lst .ext (ns.map .int)] = .ok (.bl true, outs)) : spC K mg cl f [.ref a] H (fun v _ => v = .bl true) fun _ _ _ => False := by
  obtain ⟨outs, hc⟩ := hc
  have intsR : ∀ (ns : List Int), ReL K mg H H (ns.map D.int) (ns.map V.int) [] := fun ns => by
    induction ns with
    | nil => simp [ReL]
    | cons i r ih =>
      simp only [List.map_cons, ReL]
      exact ⟨V.int i, _, [], [], rfl, rfl, by simp [Rep], ih⟩
  refine ⟨[.lst .ext (ns.map .int)], H, [], ⟨Le.refl _, ?_, .nil, fun a z => absurd z (by simp)⟩, ?_⟩
  · simp only [List.map_cons, List.map_nil, EL]
    refine ⟨.ref a, [], [], [], rfl, rfl, ?_, rfl, rfl⟩
    simp only [Rep]
    exact ⟨trivial, a, _, rfl, hs, intsR ns⟩
  · rw [hc]
    intro v H' F' A' as st S r nd dj
    simp only [Rep] at r
    exact r.1
end Ev

set_option Elab.async false
set_option linter.all false
set_option maxRecDepth 100000
set_option maxHeartbeats 4000000
/-! Ev32: from what stands behind the top to the law. -/
namespace Ev
open PySem L2 PySem.Spec

/-- what the text says of a def -/
structure DfS (df : Df) (nm qual : Str) (ps : List Str) : Prop where
  S : FnScope df.N ps (defScope df.st)
  np : ps.length = df.np
  nn : ∀ x ∈ df.N, (x == ("__debug__" : Str)) = false ∧ (x == ("__classdict__" : Str)) = false
  hb : ∀ (kV doc pm : Value) (an : Option Addr) (cdv ct : Value) (us : List Value), us.length = ps.length → bindArgs (PySem.W.fnOf nm qual (defArgs df.st) (defBody df.st) (defScope df.st) .none kV doc pm an cdv ct) ⟨us, []⟩ = pure (ps.zip us)
section
variable {P : Program} {w : World} {K : PySem.W.Frag} {h : Heap} {mg : Str → Option Value} {M : Gb} {T : List (Str × Df)}
theorem dfOk_mk (X : K.In h) (G : h.Ns mainGlobals mg) {f nm qual : Str} {df : Df} {fa : Addr} {ps : List Str} {oc : Value} {od an : Option Addr} {osl : Array (Option Value)} {kV doc pm cdv ct : Value} (s : DfS df nm qual ps)
    (a : PySem.W.nsIn K mainGlobals f = some (some (.ref fa))) (l : K.lookup fa = some ⟨oc, od, .func (PySem.W.fnOf nm qual (defArgs df.st) (defBody df.st) (defScope df.st) .none kV doc pm an cdv ct), osl⟩) (c : PySem.W.codeIn K cdv qual = true) (k : PySem.W.keepIn K (.ref fa) = true) :
    ∃ fa fd, DfOk K mg f df fa fd ps ∧ ∀ (s : Shared) (us : List Value), us.length = ps.length → BindsTo s fd ⟨us, []⟩ (ps.zip us) :=
  ⟨fa, _, ⟨PySem.W.mg_of X G a, k, (fun_mk l c k).binds s.hb, ⟨nm, qual, _, .none, kV, doc, pm, cdv, ct, oc, an, od, osl, rfl, l, c⟩, s.S, s.np, s.nn⟩, fun _ us hl => .of_eq (s.hb _ _ _ _ _ _ us hl)⟩
/-- every row of the table -/
def RowsOk (K : PySem.W.Frag) (mg : Str → Option Value) : List (Str × Df) → Prop
  | [] => True
  | p :: r => (∃ fa fd ps, DfOk K mg p.1 p.2 fa fd ps) ∧ RowsOk K mg r
theorem row_of {f : Str} {df : Df} {ps : List Str} {R : Addr → FuncData → Prop} (h : ∃ fa fd, DfOk K mg f df fa fd ps ∧ R fa fd) : ∃ fa fd ps, DfOk K mg f df fa fd ps := by
  obtain ⟨fa, fd, h, _⟩ := h
  exact ⟨fa, fd, ps, h⟩
theorem RowsOk.get : ∀ {T : List (Str × Df)} {f : Str} {df : Df}, RowsOk K mg T → T.lookup f = some df → ∃ fa fd ps, DfOk K mg f df fa fd ps
  | [], f, df, _, h => by simp at h
  | p :: r, f, df, hr, h => by
    obtain ⟨x, d⟩ := p
    rw [List.lookup] at h
    split at h
    · rename_i q
      cases h
      rw [eq_of_beq q]
      exact hr.1
    · exact RowsOk.get hr.2 h
theorem tab_mk (mod : ModOk M K mg) (rows : RowsOk K mg T) (all : (M.defs.all fun f => (T.lookup f).isSome) = true) : TabOk M T K mg := ⟨mod, fun f hf => by
  have := List.all_eq_true.mp all f (List.contains_iff_mem.mp hf)
  obtain ⟨df, hd⟩ := Option.isSome_iff_exists.mp this
  obtain ⟨fa, fd, ps, hh⟩ := rows.get hd
  exact ⟨df, fa, fd, ps, hd, hh⟩⟩
/-- constants that are plain -/
def ConstsOk (mg : Str → Option Value) : List (Str × D) → Prop
  | [] => True
  | p :: r => (∃ u v, mg p.1 = some u ∧ RelV v u ∧ owned p.2 = false ∧ ∀ (K : PySem.W.Frag) (mg : Str → Option Value) F H, Rep K mg F H p.2 v []) ∧ ConstsOk mg r
theorem const_int {X : K.In h} {G : h.Ns mainGlobals mg} {x : Str} {i : Int} {t : Tok} (a : PySem.W.nsIn K mainGlobals x = some (some (.int i t))) : ∃ u v, mg x = some u ∧ RelV v u ∧ owned (D.int i) = false ∧ ∀ (K : PySem.W.Frag) (mg : Str → Option Value) F H, Rep K mg F H (D.int i) v [] :=
  ⟨_, .int i, PySem.W.mg_of X G a, ⟨t, rfl⟩, rfl, fun _ _ _ _ => by simp [Rep]⟩
theorem ConstsOk.get : ∀ {cs : List (Str × D)} {x : Str} {d : D}, ConstsOk mg cs → cs.lookup x = some d → ∃ u v, mg x = some u ∧ RelV v u ∧ owned d = false ∧ ∀ (K : PySem.W.Frag) (mg : Str → Option Value) F H, Rep K mg F H d v []
  | [], x, d, _, h => by simp at h
  | p :: r, x, d, hc, h => by
    obtain ⟨y, c⟩ := p
    rw [List.lookup] at h
    split at h
    · rename_i q
      cases h
      rw [eq_of_beq q]
      exact hc.1
    · exact ConstsOk.get hc.2 h
def FreeOk (mg : Str → Option Value) : List Str → Prop
  | [] => True
  | x :: r => mg x = none ∧ FreeOk mg r
theorem FreeOk.get : ∀ {xs : List Str} {x : Str}, FreeOk mg xs → x ∈ xs → mg x = none
  | [], x, _, h => by simp at h
  | y :: r, x, hf, h => by
    rcases List.mem_cons.mp h with q | q
    · rw [q]; exact hf.1
    · exact FreeOk.get hf.2 q
def nmOk (M : Gb) : Bool := ((M.consts.map (·.1)) ++ M.defs ++ M.free).all fun x => !(x == ("__debug__" : Str)) && !(x == ("__name__" : Str))
theorem lookup_mem {cs : List (Str × D)} {x : Str} {d : D} (h : cs.lookup x = some d) : x ∈ cs.map (·.1) := by
  induction cs with
  | nil => simp at h
  | cons p r ih =>
    obtain ⟨y, c⟩ := p
    rw [List.lookup] at h
    split at h
    · rename_i q; rw [eq_of_beq q]; simp
    · exact List.mem_cons_of_mem _ (ih h)
theorem mod_mk (cs : ConstsOk mg M.consts) (rows : RowsOk K mg T) (all : (M.defs.all fun f => (T.lookup f).isSome) = true) (fr : FreeOk mg M.free) (nm : nmOk M = true) : ModOk M K mg where
  const := fun x d hd => by
    obtain ⟨u, v, h1, h2, h3, h4⟩ := cs.get hd
    exact ⟨u, v, h1, h2, h3, h4 K mg⟩
  defs := fun x hx => by
    have := List.all_eq_true.mp all x (List.contains_iff_mem.mp hx)
    obtain ⟨df, hd⟩ := Option.isSome_iff_exists.mp this
    obtain ⟨fa, fd, ps, hh⟩ := rows.get hd
    exact ⟨fa, hh.mgf⟩
  free := fun x hx => fr.get (List.contains_iff_mem.mp hx)
  nm := fun x hx => by
    have hm : x ∈ (M.consts.map (·.1)) ++ M.defs ++ M.free := by
      rcases hx with ⟨d, hd⟩ | hx | hx
      · simp only [List.mem_append]; exact .inl (.inl (lookup_mem hd))
      · simp only [List.mem_append]; exact .inl (.inr (List.contains_iff_mem.mp hx))
      · simp only [List.mem_append]; exact .inr (List.contains_iff_mem.mp hx)
    have := List.all_eq_true.mp nm x hm
    simp only [Bool.and_eq_true, Bool.not_eq_true'] at this
    exact ⟨this.1, fun e => by rw [e] at this; exact absurd this.2 (by decide)⟩
/-- the law's own def -/
theorem law_fact {k : Nat} {df : Df} {fa : Addr} (tab : TabOk M T K mg) (hl : T.lookup ("law" : Str) = some df) (hd : ∃ fa fd, DfOk K mg "law" df fa fd ["script"] ∧ ∀ (s : Shared) (us : List Value), us.length = 1 → BindsTo s fd ⟨us, []⟩ (([("script" : Str)] : List Str).zip us)) (hmg : mg "law" = some (.ref fa)) :
    ∃ fd : FuncData, (∀ (s : Shared) (u : Value), BindsTo s fd ⟨[u], []⟩ [("script", u)]) ∧ ∀ base : Heap, K.In base → base.Ns mainGlobals mg → FnG P w K mg base (L2.CX P w) k fa fd ["script"] (spC K mg (lev M T k) "law") := by
  obtain ⟨fa', fd, h, hb⟩ := hd
  have e := hmg.symm.trans h.mgf
  cases e
  exact ⟨fd, fun s u => hb s [u] rfl, fun base _ _ => lev_ok tab k "law" df _ fd _ hl h⟩
end
/-- the whole way -/
theorem walk_law {l : PySem.W.OpenLaw} {n k : Nat} {q : Program} {loose : List Str} {XP : (Str → Option Value) → Heap → Prop} {YP : World → Heap → Prop} {d : DefRec} {K : Params → PySem.W.Frag} {M : Gb} {T : List (Str × Df)}
    (hn : l.most = some n) (hn2 : n ≤ sizeLine) (hdf : d.params.defaults = []) (hr : Room k callerA) (hnm : d.name = "law") (hY : ∀ (w : World) (h : Heap), YP w h → (K w.params).In h)
    (F : ∀ (w : World) (mg : Str → Option Value) (h : Heap), (K w.params).In h → h.Ns mainGlobals mg →
      TabOk M T (K w.params) mg ∧ ∃ df, T.lookup ("law" : Str) = some df ∧ ∃ fa fd, DfOk (K w.params) mg "law" df fa fd ["script"] ∧ ∀ (s : Shared) (us : List Value), us.length = 1 → BindsTo s fd ⟨us, []⟩ (([("script" : Str)] : List Str).zip us))
    (math : ∀ ns : List Int, ns.length ≤ n → ∃ outs, lev M T k "law" [.lst .ext (ns.map .int)] = .ok (.bl true, outs)) :
    PySem.W.WalkO q loose XP YP l.row.toRowW d [] (fun f vs => PySem.call f vs) :=
  walk_ofG (n := n) (k := k) (x := "script") (CX := fun w => L2.CX l.prog w) (sp := fun w mg => spC (K w.params) mg (lev M T k) "law") hn hn2 hdf hr hY
    (fun w mg fa h X G hmg => by
      obtain ⟨tab, df, hl, hd⟩ := F w mg h X G
      rw [hnm] at hmg
      exact law_fact tab hl hd hmg)
    (fun w mg H a ns hl hO hs => spC_law hs (math ns hl))
    (fun w H s e s' ⟨_, _, _, _, _, _, _, _, _, _, _, _, z⟩ => z)
end Ev

set_option Elab.async false
set_option linter.all false
set_option maxRecDepth 100000
set_option maxHeartbeats 4000000
/-! Ev33: rows for reckoning with the evaluator. -/
namespace Ev
open PySem L2

def gOf (f : Df) (b : List Nat) : Cn := { N := f.N, sc := defScope f.st, fnc := fun _ => true, bor := b }
def fin (ds : List D) : Fl → R (D × List (Option D))
    | .nx e => .ok (.non, outsOf ds e)
    | .rt d e => .ok (d, outsOf ds e)
    | _ => .stuck
def en0 (f : Df) (ds : List D) : En := ds.map some ++ List.replicate (f.N.length - ds.length) none
theorem lev_eq {M : Gb} {T : List (Str × Df)} {k : Nat} {x : Str} {f : Df} {ds : List D} (ht : T.lookup x = some f) (hl : ds.length = f.np) :
    lev M T (k + 1) x ds = (evSs M (lev M T k) (gOf f (borOf ds)) 60 200 (defBody f.st) (en0 f ds)).bind (fin ds) := by
  conv => lhs; unfold lev
  rw [ht]
  simp only [runDef]
  rw [if_neg (by simpa using hl)]
  rfl
section
variable {α β : Type} {a : α} {f : α → R β} {i j : Int} {b : Bool} {e : En} {d d2 x y : D} {ds : List D} {n : Nat} {o : Option D}
theorem bind_ok : (R.ok a).bind f = f a := rfl
theorem bind_st : (R.stuck : R α).bind f = .stuck := rfl
theorem ofO_s : ofO (some a) = .ok a := rfl
theorem c_val : content e (.val d) = some d := rfl
theorem c_han : content e (.han n []) = getE e n := by
  simp only [content]
  cases getE e n with
  | none => rfl
  | some d => simp only [part]
theorem g_0 : getE (o :: e) 0 = o := by cases o <;> rfl
theorem g_s : getE (o :: e) (n + 1) = getE e n := by simp only [getE, List.getElem?_cons_succ]
theorem sole_v : sole e (.val d) = .ok (.val d, e) := rfl
theorem sole_h : sole e (.han n []) = .ok (.han n [], e) := rfl
theorem take_v : take e (.val d) = .ok (d, e) := rfl
theorem take_h (h : getE e n = some d) : take e (.han n []) = .ok (frz d, e.set n (some (frz d))) := by simp only [take, h, part]
theorem ow_non : owned .non = false := rfl
theorem ow_bl : owned (.bl b) = false := rfl
theorem ow_int : owned (.int i) = false := rfl
theorem ow_str {z : Str} : owned (.str z) = false := rfl
theorem ow_tup : owned (.tup ds) = false := rfl
theorem ow_own : owned (.lst .own ds) = true := rfl
theorem ow_fro : owned (.lst .fro ds) = false := rfl
theorem ow_ext : owned (.lst .ext ds) = false := rfl
theorem ow_ty {z : String} : owned (.ty z) = false := rfl
theorem ow_fn {z : Str} : owned (.fn z) = false := rfl
theorem ow_dic {ks : List Key} : owned (.dic .own ks ds) = true := rfl
theorem b_add : binop .Add (.int i) (.int j) = some (.int (i + j)) := rfl
theorem b_sub : binop .Sub (.int i) (.int j) = some (.int (i - j)) := rfl
theorem b_mul (h : mulOk i j = true) : binop .Mult (.int i) (.int j) = some (.int (i * j)) := by simp only [binop, h, if_true]
theorem b_mod (h : 0 < j) : binop .Mod (.int i) (.int j) = some (.int (i % j)) := by simp only [binop, h, if_true]
theorem b_div (h : divOk j = true) : binop .FloorDiv (.int i) (.int j) = some (.int (i / j)) := by simp only [binop, h, if_true]
theorem n_non : isNon .non = true := rfl
theorem n_bl : isNon (.bl b) = false := rfl
theorem n_int : isNon (.int i) = false := rfl
theorem n_str {z : Str} : isNon (.str z) = false := rfl
theorem n_tup : isNon (.tup ds) = false := rfl
theorem n_lst {m : Mk} : isNon (.lst m ds) = false := rfl
theorem n_dic {m : Mk} {ks : List Key} : isNon (.dic m ks ds) = false := rfl
theorem m_is : cmpop .Is x .non = some (isNon x) := by cases x <;> rfl
theorem m_isnot : cmpop .IsNot x .non = some (!isNon x) := by cases x <;> rfl
theorem m_lt : cmpop .Lt (.int i) (.int j) = some (decide (i < j)) := rfl
theorem m_le : cmpop .LtE (.int i) (.int j) = some (decide (i ≤ j)) := rfl
theorem m_gt : cmpop .Gt (.int i) (.int j) = some (decide (j < i)) := rfl
theorem m_ge : cmpop .GtE (.int i) (.int j) = some (decide (j ≤ i)) := rfl
theorem m_eq : cmpop .Eq x y = eqD x y := by cases x <;> cases y <;> rfl
theorem m_ne : cmpop .NotEq x y = (eqD x y).map fun b => !b := by cases x <;> cases y <;> rfl
theorem q_int : eqD (.int i) (.int j) = some (decide (i = j)) := by
  simp only [eqD, toPy, SeqAt.shaped, Bool.true_and, if_true]
  first | rfl | (congr 1; simp [PyData.eqv]) | (simp [PyData.eqv])
theorem t_bl : truth (.bl b) = some b := rfl
theorem t_int : truth (.int i) = some (i != 0) := rfl
theorem t_non : truth .non = some false := rfl
theorem t_tup : truth (.tup ds) = some (!ds.isEmpty) := rfl
theorem t_lst {m : Mk} : truth (.lst m ds) = some (!ds.isEmpty) := rfl
theorem s_and {c : Bool} : stops .And c = !c := rfl
theorem s_or {c : Bool} : stops .Or c = c := rfl
theorem name_v {M : Gb} {G : Cn} {z : Str} {i : Nat} (hs : slotOf G.N z = some i) (hv : G.vis z = true) : nameE M G z e = match getE e i with | some d => .ok (if owned d then .han i [] else .val d, e) | none => .stuck := by
  unfold nameE
  rw [hs]
  simp only [hv, if_true]
  all_goals (cases getE e i <;> rfl)
theorem name_g {M : Gb} {G : Cn} {z : Str} (hs : slotOf G.N z = none) (hg : G.glob z = true) : nameE M G z e = match M.consts.lookup z with
    | some d => .ok (.val d, e)
    | none => if M.defs.contains z then .ok (.val (.fn z), e) else if M.free.contains z then (match tyName z with | some t => .ok (.val (.ty t), e) | none => .stuck) else .stuck := by
  unfold nameE; rw [hs]; simp only [hg, if_true]
  all_goals rfl
theorem asg_v {G : Cn} {z : Str} {i : Nat} (hs : slotOf G.N z = some i) (hl : G.loc z = true) (hb : G.bor.contains i = false) (hi : i < e.length) : asgN G z d e = .ok (e.set i (some d)) := by
  simp only [asgN, setS, hs, hl, hb, hi, if_true]
  simp
theorem q_non1 : eqD .non .non = some true := by first | rfl | simp [eqD, toPy, SeqAt.shaped, PyData.eqv]
theorem q_non2 : eqD (.int i) .non = some false := by first | rfl | simp [eqD, toPy, SeqAt.shaped, PyData.eqv]
theorem q_non3 : eqD .non (.int i) = some false := by first | rfl | simp [eqD, toPy, SeqAt.shaped, PyData.eqv]
theorem q_bl {c : Bool} : eqD (.bl b) (.bl c) = some (b == c) := by first | rfl | (cases b <;> cases c <;> rfl)
theorem gOf_N {f : Df} {bs : List Nat} : (gOf f bs).N = f.N := rfl
theorem gOf_bor {f : Df} {bs : List Nat} : (gOf f bs).bor = bs := rfl
theorem sub_N {G : Cn} {sc : Scope} : (G.sub sc).N = G.N := rfl
theorem sub_bor {G : Cn} {sc : Scope} : (G.sub sc).bor = G.bor := rfl
theorem name_eq {M : Gb} {G : Cn} {z : Str} : nameE M G z e = match slotOf G.N z with
  | some i => if G.vis z then (match getE e i with
    | some d => .ok (if owned d then .han i [] else .val d, e)
    | none => .stuck) else .stuck
  | none => if G.glob z then (match M.consts.lookup z with
    | some d => .ok (.val d, e)
    | none => if M.defs.contains z then .ok (.val (.fn z), e) else if M.free.contains z then (match tyName z with | some t => .ok (.val (.ty t), e) | none => .stuck) else .stuck) else .stuck := rfl
theorem asgN_eq {G : Cn} {z : Str} : asgN G z d e = match slotOf G.N z with
  | some i => if G.loc z then (if G.bor.contains i then .stuck else if i < e.length then .ok (e.set i (some d)) else .stuck) else .stuck
  | none => .stuck := rfl
theorem call_eq {cl : Cl} {f : Str} {vs : List RV} : callF cl f vs e = match lend e vs with
  | some (ds, is, e1) => (cl f ds).bind fun (d, outs) => (match giveBack is outs e1 with | some e2 => .ok (.val d, e2) | none => .stuck)
  | none => .stuck := rfl
theorem lend_nil : lend e [] = some ([], [], e) := rfl
theorem lend_val {r : List RV} : lend e (.val d :: r) = match lend e r with | some (ds, is, e1) => some (frz d :: ds, none :: is, e1) | none => none := rfl
theorem lend_han {r : List RV} : lend e (.han n [] :: r) = match getE e n with
    | some d => (match lend (e.set n none) r with | some (ds, is, e1) => some (d :: ds, some n :: is, e1) | none => none)
    | none => none := rfl
theorem gb_nil {s : List (Option D)} : giveBack [] s e = some e := rfl
theorem gb_none {r : List (Option Nat)} {s : List (Option D)} : giveBack (none :: r) (o :: s) e = giveBack r s e := by cases o <;> rfl
theorem gb_some {r : List (Option Nat)} {s : List (Option D)} : giveBack (some n :: r) (some d :: s) e = giveBack r s (e.set n (some d)) := rfl
theorem frz_int : frz (.int i) = .int i := rfl
theorem contents_nil : contents e [] = some [] := rfl
theorem contents_cons {v : RV} {r : List RV} : contents e (v :: r) = match content e v, contents e r with | some d, some ds => some (d :: ds) | _, _ => none := rfl
theorem bl_int : callB .int [.int i] = some (.int i) := rfl
theorem bl_bl : callB .int [.bl b] = some (.int (if b then 1 else 0)) := rfl
theorem pp_1 {j : Nat} : putPart (.lst .own ds) [j] x = (match ds[j]? with | some _ => some (.lst .own (ds.set j x)) | none => none) := by
  simp only [putPart]
  all_goals (cases ds[j]? <;> rfl)
theorem lenOk2 : lenOk 2 = true := by unfold lenOk; exact decide_eq_true (by decide)
theorem frzL_nil : frzL [] = [] := rfl
theorem frzL_cons : frzL (d :: ds) = frz d :: frzL ds := rfl
theorem frz_tup : frz (.tup ds) = .tup ds := rfl
theorem itE_t {va : RV} {i : Int} {xs : List D} : itemE va (some (.tup xs)) i e = (match item xs i with
    | some j => (match xs[j]? with | some d => .ok (.val d, e) | none => .stuck)
    | none => .stuck) := rfl
theorem itE_l {va : RV} {i : Int} {m : Mk} {xs : List D} : itemE va (some (.lst m xs)) i e = (match item xs i with
    | some j => (match xs[j]? with
      | some d => if owned d then (match va with | .han s p => .ok (.han s (p ++ [j]), e) | _ => .stuck) else .ok (.val d, e)
      | none => .stuck)
    | none => .stuck) := rfl
theorem item_nat {xs : List D} {j : Nat} (h : j < xs.length) : item xs (j : Int) = some j := by
  unfold item ixN
  have h1 : (0 : Int) ≤ (j : Int) := Int.natCast_nonneg j
  have h2 : (j : Int) < (xs.length : Int) := by omega
  rw [if_pos h1, if_pos h2]
  simp
theorem item_0 {xs : List D} : item (d :: xs) 0 = some 0 := item_nat (j := 0) (by simp)
theorem item_1 {xs : List D} : item (d :: d2 :: xs) 1 = some 1 := item_nat (j := 1) (by simp)
theorem item_2 {xs : List D} : item (d :: d2 :: x :: xs) 2 = some 2 := item_nat (j := 2) (by simp)
theorem li_0 {γ : Type} {z : γ} {xs : List γ} : (z :: xs)[0]? = some z := rfl
theorem li_1 {γ : Type} {z z1 : γ} {xs : List γ} : (z :: z1 :: xs)[1]? = some z1 := rfl
theorem li_2 {γ : Type} {z z1 z2 : γ} {xs : List γ} : (z :: z1 :: z2 :: xs)[2]? = some z2 := rfl
theorem takes_nil : takes e [] = .ok ([], e) := rfl
theorem takes_cons {v : RV} {r : List RV} : takes e (v :: r) = (take e v).bind fun (d, e1) => (takes e1 r).bind fun (ds, e2) => .ok (d :: ds, e2) := rfl
theorem ed2 {p q : Str} : ([p, q].eraseDups.length != 2) = (q == p) := by
  cases h : (q == p) <;> simp [List.eraseDups, List.eraseDupsBy, List.eraseDupsBy.loop, h]
theorem ed3 {p q r : Str} (h1 : (q == p) = false) (h2 : (r == p) = false) (h3 : (r == q) = false) : ([p, q, r].eraseDups.length != 3) = false := by
  simp [List.eraseDups, List.eraseDupsBy, List.eraseDupsBy.loop, h1, h2, h3]
theorem bl_lenT : callB .len [.tup ds] = some (.int ds.length) := rfl
theorem bl_lenL {m : Mk} : callB .len [.lst m ds] = some (.int ds.length) := rfl
theorem bl_abs : callB .abs [.int i] = some (.int (if i < 0 then -i else i)) := rfl
theorem bl_max : callB .max [.int i, .int j] = some (.int (if j > i then j else i)) := rfl
theorem bl_min : callB .min [.int i, .int j] = some (.int (if j < i then j else i)) := rfl
theorem bl_listT : callB .list [.tup ds] = some (.lst .own ds) := rfl
theorem bl_listL {m : Mk} (h : plainL ds = true) : callB .list [.lst m ds] = some (.lst .own ds) := by simp only [callB, h, if_true]
theorem bl_tupT : callB .tuple [.tup ds] = some (.tup ds) := rfl
theorem bl_tupL {m : Mk} (h : plainL ds = true) : callB .tuple [.lst m ds] = some (.tup ds) := by simp only [callB, h, if_true]
theorem bl_any {m : Mk} {bs : List Bool} (h : bools ds = some bs) : callB .any [.lst m ds] = some (.bl (bs.any id)) := by simp only [callB, h]
theorem bl_all {m : Mk} {bs : List Bool} (h : bools ds = some bs) : callB .all [.lst m ds] = some (.bl (bs.all id)) := by simp only [callB, h]
theorem is_ty {z : String} : callB .isinstance [d, .ty z] = (isinst d z).map fun b => .bl b := rfl
theorem is_non_int : isinst .non "int" = some false := by first | rfl | decide
theorem is_non_bool : isinst .non "bool" = some false := by first | rfl | decide
theorem is_non_tuple : isinst .non "tuple" = some false := by first | rfl | decide
theorem is_non_list : isinst .non "list" = some false := by first | rfl | decide
theorem is_non_str : isinst .non "str" = some false := by first | rfl | decide
theorem is_non_dict : isinst .non "dict" = some false := by first | rfl | decide
theorem is_bl_int : isinst (.bl b) "int" = some true := by first | rfl | decide
theorem is_bl_bool : isinst (.bl b) "bool" = some true := by first | rfl | decide
theorem is_bl_tuple : isinst (.bl b) "tuple" = some false := by first | rfl | decide
theorem is_bl_list : isinst (.bl b) "list" = some false := by first | rfl | decide
theorem is_bl_str : isinst (.bl b) "str" = some false := by first | rfl | decide
theorem is_bl_dict : isinst (.bl b) "dict" = some false := by first | rfl | decide
theorem is_int_bool : isinst (.int i) "bool" = some false := by first | rfl | decide
theorem is_int_tuple : isinst (.int i) "tuple" = some false := by first | rfl | decide
theorem is_int_list : isinst (.int i) "list" = some false := by first | rfl | decide
theorem is_int_str : isinst (.int i) "str" = some false := by first | rfl | decide
theorem is_int_dict : isinst (.int i) "dict" = some false := by first | rfl | decide
theorem is_str_int {z : Str} : isinst (.str z) "int" = some false := by first | rfl | decide
theorem is_str_bool {z : Str} : isinst (.str z) "bool" = some false := by first | rfl | decide
theorem is_str_tuple {z : Str} : isinst (.str z) "tuple" = some false := by first | rfl | decide
theorem is_str_list {z : Str} : isinst (.str z) "list" = some false := by first | rfl | decide
theorem is_str_str {z : Str} : isinst (.str z) "str" = some true := by first | rfl | decide
theorem is_str_dict {z : Str} : isinst (.str z) "dict" = some false := by first | rfl | decide
theorem is_tup_int : isinst (.tup ds) "int" = some false := by first | rfl | decide
theorem is_tup_bool : isinst (.tup ds) "bool" = some false := by first | rfl | decide
theorem is_tup_tuple : isinst (.tup ds) "tuple" = some true := by first | rfl | decide
theorem is_tup_list : isinst (.tup ds) "list" = some false := by first | rfl | decide
theorem is_tup_str : isinst (.tup ds) "str" = some false := by first | rfl | decide
theorem is_tup_dict : isinst (.tup ds) "dict" = some false := by first | rfl | decide
theorem is_lst_int {m : Mk} : isinst (.lst m ds) "int" = some false := by first | rfl | decide
theorem is_lst_bool {m : Mk} : isinst (.lst m ds) "bool" = some false := by first | rfl | decide
theorem is_lst_tuple {m : Mk} : isinst (.lst m ds) "tuple" = some false := by first | rfl | decide
theorem is_lst_list {m : Mk} : isinst (.lst m ds) "list" = some true := by first | rfl | decide
theorem is_lst_str {m : Mk} : isinst (.lst m ds) "str" = some false := by first | rfl | decide
theorem is_lst_dict {m : Mk} : isinst (.lst m ds) "dict" = some false := by first | rfl | decide
theorem is_dic_int {m : Mk} {ks : List Key} : isinst (.dic m ks ds) "int" = some false := by first | rfl | decide
theorem is_dic_bool {m : Mk} {ks : List Key} : isinst (.dic m ks ds) "bool" = some false := by first | rfl | decide
theorem is_dic_tuple {m : Mk} {ks : List Key} : isinst (.dic m ks ds) "tuple" = some false := by first | rfl | decide
theorem is_dic_list {m : Mk} {ks : List Key} : isinst (.dic m ks ds) "list" = some false := by first | rfl | decide
theorem is_dic_str {m : Mk} {ks : List Key} : isinst (.dic m ks ds) "str" = some false := by first | rfl | decide
theorem is_dic_dict {m : Mk} {ks : List Key} : isinst (.dic m ks ds) "dict" = some true := by first | rfl | decide
theorem is_int : isinst (.int i) "int" = some true := by first | rfl | decide
end
end Ev

set_option Elab.async false
set_option linter.all false
set_option maxRecDepth 100000
/-! Ev34: reckoning at the head. -/
namespace Ev
open PySem L2
/-! reckoning goes to the head alone: what stands behind a bind, and within a loop, is left as it is -/
structure Tg {α : Type} (f : α) : Type where
  n : Nat
section
variable {α β : Type}
def bnd (x : R α) (f : α → R β) (_ : Tg f) : R β := x.bind f
theorem to_bnd (x : R α) (f : α → R β) : x.bind f = bnd x f ⟨0⟩ := by unfold bnd; rfl
theorem bnd_ok {a : α} {f : α → R β} {t : Tg f} : bnd (.ok a) f t = f a := by cases t; rfl
theorem bnd_st {f : α → R β} {t : Tg f} : bnd .stuck f t = .stuck := by cases t; rfl
theorem bnd_of {x : R α} {f : α → R β} {t : Tg f} {y : R β} (h : ∃ a, x = .ok a ∧ f a = y) : bnd x f t = y := by obtain ⟨a, h1, h2⟩ := h; unfold bnd; rw [h1]; exact h2
def lcF (vs : List Nat) (asg : D → En → R En) (test : En → R (Bool × En)) (elt : En → R (D × En)) (_ : Tg asg) (_ : Tg test) (_ : Tg elt) (ds acc : List D) (e : En) : R (List D × En) := lcL vs asg test elt ds acc e
theorem to_lcF {vs : List Nat} {asg : D → En → R En} {test : En → R (Bool × En)} {elt : En → R (D × En)} {ds acc : List D} {e : En} : lcL vs asg test elt ds acc e = lcF vs asg test elt ⟨0⟩ ⟨0⟩ ⟨0⟩ ds acc e := by unfold lcF; rfl
def forF (asg : D → En → R En) (body : En → R Fl) (_ : Tg asg) (_ : Tg body) (ds : List D) (e : En) : R Fl := forL asg body ds e
theorem to_forF {asg : D → En → R En} {body : En → R Fl} {ds : List D} {e : En} : forL asg body ds e = forF asg body ⟨0⟩ ⟨0⟩ ds e := by unfold forF; rfl
def whileF (test : En → R (Bool × En)) (body : En → R Fl) (_ : Tg test) (_ : Tg body) (n : Nat) (e : En) : R Fl := whileL test body n e
theorem to_whileF {test : En → R (Bool × En)} {body : En → R Fl} {n : Nat} {e : En} : whileL test body n e = whileF test body ⟨0⟩ ⟨0⟩ n e := by unfold whileF; rfl
end
section
variable {α β γ : Type}
theorem bnd_assoc {x : R α} {f : α → R β} {g : β → R γ} {t : Tg f} {u : Tg g} : bnd (bnd x f t) g u = bnd x (fun a => (f a).bind g) ⟨0⟩ := by
  unfold bnd
  cases x <;> rfl
variable {d : D} {e : En} {n v : Nat} {vs : List Nat} {ds : List D} {o : Option D}
theorem takeF_v : takeF e (.val d) = .ok (frz d, e) := rfl
theorem takeF_h : takeF e (.han n []) = (match getE e n with | some d => .ok (frz (frz d), e.set n (some (frz d))) | none => .stuck) := by
  unfold takeF
  simp only [take, part]
  cases getE e n <;> rfl
theorem take_hn : take e (.han n []) = (match getE e n with | some d => .ok (frz d, e.set n (some (frz d))) | none => .stuck) := by
  simp only [take, part]
  all_goals (cases getE e n <;> rfl)
theorem asgNs_nil {G : Cn} : asgNs G [] [] e = .ok e := rfl
theorem asgNs_cons {G : Cn} {x : Str} {p : Pos} {r : List Expr} : asgNs G (.Name x p :: r) (d :: ds) e = (asgN G x d e).bind fun e1 => asgNs G r ds e1 := rfl
theorem asgEa_nil {M : Gb} {cl : Cl} {G : Cn} {w : Nat} : asgEach M cl G w [] [] e = .ok e := rfl
theorem asgEa_nam {M : Gb} {cl : Cl} {G : Cn} {w : Nat} {x : Str} {p : Pos} {r : List Expr} : asgEach M cl G w (.Name x p :: r) (d :: ds) e = (asgN G x d e).bind fun e1 => asgEach M cl G w r ds e1 := rfl
theorem asgEa_sub {M : Gb} {cl : Cl} {G : Cn} {w : Nat} {a b : Expr} {p : Pos} {r : List Expr} : asgEach M cl G w (.Subscript a b p :: r) (d :: ds) e = (asgI M cl G w a b d e).bind fun e1 => asgEach M cl G w r ds e1 := rfl
theorem isOL_own : isOL (some (.lst .own ds)) = true := rfl
theorem pp_0 {x : D} : putPart d [] x = some x := by unfold putPart; rfl
theorem free_nil : freeE e [] = true := rfl
def plO : Option D → Bool
  | some d => !owned d
  | none => true
theorem plO_s : plO (some d) = !owned d := rfl
theorem plO_n : plO none = true := rfl
theorem free_cons : freeE e (v :: vs) = (plO (getE e v) && freeE e vs) := rfl
theorem c_hanc {i : Nat} {p : List Nat} : content e (.han n (i :: p)) = (match getE e n with | some d => part d (i :: p) | none => none) := rfl
theorem wipe_nil : wipeE e [] = e := rfl
theorem wipe_cons : wipeE e (v :: vs) = (wipeE e vs).set v none := rfl
theorem back_eq {e0 : En} : backE e0 e vs = patchE e0 (wipeE e vs) vs := rfl
theorem patch_nil {e0 : En} : patchE e0 e [] = e := rfl
theorem patch_cons {e0 : En} : patchE e0 e (v :: vs) = patchE e0 (e.set v (match e0[v]? with | some o => o | none => none)) vs := rfl
theorem li_3 {z z1 z2 z3 : γ} {xs : List γ} : (z :: z1 :: z2 :: z3 :: xs)[3]? = some z3 := rfl
theorem li_4 {z z1 z2 z3 z4 : γ} {xs : List γ} : (z :: z1 :: z2 :: z3 :: z4 :: xs)[4]? = some z4 := rfl
theorem li_5 {z z1 z2 z3 z4 z5 : γ} {xs : List γ} : (z :: z1 :: z2 :: z3 :: z4 :: z5 :: xs)[5]? = some z5 := rfl
theorem li_6 {z z1 z2 z3 z4 z5 z6 : γ} {xs : List γ} : (z :: z1 :: z2 :: z3 :: z4 :: z5 :: z6 :: xs)[6]? = some z6 := rfl
theorem li_7 {z z1 z2 z3 z4 z5 z6 z7 : γ} {xs : List γ} : (z :: z1 :: z2 :: z3 :: z4 :: z5 :: z6 :: z7 :: xs)[7]? = some z7 := rfl
theorem b_addT {xs ys : List D} : binop .Add (.tup xs) (.tup ys) = if lenOk (xs.length + ys.length) then some (.tup (xs ++ ys)) else none := by unfold binop; rfl
theorem b_addLo {xs ys : List D} : binop .Add (.lst .own xs) (.lst .own ys) = if plainL xs && plainL ys && lenOk (xs.length + ys.length) then some (.lst .own (xs ++ ys)) else none := by
  unfold binop
  simp
theorem b_addLf {xs ys : List D} : binop .Add (.lst .fro xs) (.lst .own ys) = if plainL xs && plainL ys && lenOk (xs.length + ys.length) then some (.lst .own (xs ++ ys)) else none := by
  unfold binop
  simp
theorem pl_nil : plainL [] = true := rfl
theorem pl_cons {r : List D} : plainL (d :: r) = (!owned d && plainL r) := rfl
theorem frz_fro : frz (.lst .fro ds) = .lst .fro ds := rfl
theorem frz_ext : frz (.lst .ext ds) = .lst .ext ds := rfl
theorem frz_own : frz (.lst .own ds) = .lst .fro (frzL ds) := by simp only [frz]
theorem ow_dfro {ks : List Key} : owned (.dic .fro ks ds) = false := rfl
theorem ow_dext {ks : List Key} : owned (.dic .ext ks ds) = false := rfl
theorem frz_bare (h : owned d = false) : frz d = d := by
  cases d with
  | lst m ds => cases m <;> first | rfl | (simp [owned] at h)
  | dic m ks ds => cases m <;> first | rfl | (simp [owned] at h)
  | _ => rfl
theorem frz_non : frz .non = .non := rfl
theorem frz_bl {b : Bool} : frz (.bl b) = .bl b := rfl
theorem frz_str {s : Str} : frz (.str s) = .str s := rfl
/-- a op b: by the values, or by what is shared -/
def orT (o : Option D) (e : En) (k : Unit → R (RV × En)) (_ : Tg k) : R (RV × En) := match o with
  | some d => .ok (.val d, e)
  | none => k ()
theorem orT_s {k : Unit → R (RV × En)} {t : Tg k} : orT (some d) e k t = .ok (.val d, e) := by cases t; rfl
theorem orT_n {k : Unit → R (RV × En)} {t : Tg k} : orT none e k t = k () := by cases t; rfl
theorem bin_eq {M : Gb} {cl : Cl} {G : Cn} {n : Nat} {a b : Expr} {op : Operator} {p : Pos} : evE M cl G (n + 1) (.BinOp a op b p) e = (evO M cl G n a e).bind fun (va, e1) => (evO M cl G n b e1).bind fun (vb, e2) => match content e2 va, content e2 vb with
      | some x, some y => orT (binop op x y) e2 (fun _ => (takes e2 [va, vb]).bind fun (ds, e3) => match ds with
          | [x', y'] => (ofO (binop op x' y')).bind fun d => .ok (.val d, e3)
          | _ => .stuck) ⟨0⟩
      | _, _ => .stuck := by
  conv => lhs; unfold evE
  rfl
/-- one statement, then the rest -/
def seqF (x : R Fl) (k : En → R Fl) (_ : Tg k) : R Fl := x.bind fun
  | .nx e1 => k e1
  | f => .ok f
theorem evSs_seq {M : Gb} {cl : Cl} {G : Cn} {w n : Nat} {s : Stmt} {r : List Stmt} : evSs M cl G w (n + 1) (s :: r) e = seqF (evS M cl G w n s e) (fun e1 => evSs M cl G w n r e1) ⟨0⟩ := by
  conv => lhs; unfold evSs
  rfl
theorem evSs_end {M : Gb} {cl : Cl} {G : Cn} {w n : Nat} : evSs M cl G w (n + 1) [] e = .ok (.nx e) := by
  conv => lhs; unfold evSs
theorem seq_nx {k : En → R Fl} {t : Tg k} : seqF (.ok (.nx e)) k t = k e := by cases t; rfl
theorem seq_rt {k : En → R Fl} {t : Tg k} : seqF (.ok (.rt d e)) k t = .ok (.rt d e) := by cases t; rfl
theorem seq_bk {k : En → R Fl} {t : Tg k} : seqF (.ok (.bk e)) k t = .ok (.bk e) := by cases t; rfl
theorem seq_ct {k : En → R Fl} {t : Tg k} : seqF (.ok (.ct e)) k t = .ok (.ct e) := by cases t; rfl
theorem seq_bnd {x : R α} {f : α → R Fl} {t : Tg f} {k : En → R Fl} {u : Tg k} : seqF (bnd x f t) k u = bnd x (fun a => seqF (f a) k ⟨0⟩) ⟨0⟩ := by
  unfold bnd seqF
  cases x <;> rfl
theorem bnd_seq {x : R Fl} {k : En → R Fl} {u : Tg k} {g : Fl → R β} {t : Tg g} : bnd (seqF x k u) g t = bnd x (fun a => (seqF (.ok a) k ⟨0⟩).bind g) ⟨0⟩ := by
  unfold bnd seqF
  cases x <;> rfl
theorem seq_seq {x : R Fl} {k : En → R Fl} {u : Tg k} {k2 : En → R Fl} {u2 : Tg k2} : seqF (seqF x k u) k2 u2 = bnd x (fun a => seqF (seqF (.ok a) k ⟨0⟩) k2 ⟨0⟩) ⟨0⟩ := by
  unfold bnd seqF
  cases x <;> rfl
theorem seq_for {asg : D → En → R En} {body : En → R Fl} {t1 t2} {ds : List D} {k : En → R Fl} {u : Tg k} : seqF (forF asg body t1 t2 ds e) k u = bnd (forF asg body t1 t2 ds e) (fun a => seqF (.ok a) k ⟨0⟩) ⟨0⟩ := by
  unfold bnd seqF
  cases (forF asg body t1 t2 ds e) <;> rfl
theorem seq_while {test : En → R (Bool × En)} {body : En → R Fl} {t1 t2} {n : Nat} {k : En → R Fl} {u : Tg k} : seqF (whileF test body t1 t2 n e) k u = bnd (whileF test body t1 t2 n e) (fun a => seqF (.ok a) k ⟨0⟩) ⟨0⟩ := by
  unfold bnd seqF
  cases (whileF test body t1 t2 n e) <;> rfl
theorem fin_nx : fin ds (.nx e) = .ok (.non, outsOf ds e) := by unfold fin; rfl
theorem fin_rt : fin ds (.rt d e) = .ok (d, outsOf ds e) := by unfold fin; rfl
/-- what a reckoning comes to -/
def Wp {α : Type} (r : R α) (P : α → Prop) : Prop := ∃ a, r = .ok a ∧ P a
theorem wp_ok {a : α} {P : α → Prop} : Wp (.ok a) P = P a := propext ⟨fun ⟨b, e, h⟩ => by cases e; exact h, fun h => ⟨a, rfl, h⟩⟩
theorem wp_eq {r : R α} {a : α} (h : Wp r (fun b => b = a)) : r = .ok a := by obtain ⟨b, e, h⟩ := h; rw [e, h]
theorem wp_of_eq {r : R α} {a : α} {P : α → Prop} (e : r = .ok a) (h : P a) : Wp r P := ⟨a, e, h⟩
theorem wp_mono {r : R α} {P Q : α → Prop} (h : Wp r P) (i : ∀ a, P a → Q a) : Wp r Q := by obtain ⟨a, e, h⟩ := h; exact ⟨a, e, i a h⟩
theorem wp_bnd {x : R α} {f : α → R β} {t : Tg f} {P : β → Prop} (h : Wp x (fun a => Wp (f a) P)) : Wp (bnd x f t) P := by
  obtain ⟨a, e, b, e2, h⟩ := h
  unfold bnd
  rw [e]
  exact ⟨b, e2, h⟩
theorem lcL_wp {vs : List Nat} {asg : D → En → R En} {test : En → R (Bool × En)} {elt : En → R (D × En)} (Q : List D → En → Prop) (o : D → Option D → Prop) : ∀ (ds acc : List D) (e : En), acc.length + ds.length ≤ sizeLine → Q acc e →
    (∀ d ∈ ds, ∀ acc e, Q acc e → Wp ((asg d (wipeE e vs)).bind fun e1 => (test e1).bind fun p => if p.1 then (elt p.2).bind fun q => .ok (some q.1, q.2) else .ok (none, p.2)) (fun r => match r.1 with | some x => Q (acc ++ [x]) r.2 | none => Q acc r.2)) →
    Wp (lcL vs asg test elt ds acc e) (fun r => Q r.1 r.2)
  | [], acc, e, _, h, _ => ⟨_, rfl, h⟩
  | d :: ds, acc, e, hl, h, st => by
    obtain ⟨r, e1, h1⟩ := st d List.mem_cons_self acc e h
    have hlt : acc.length < sizeLine := by simp only [List.length_cons] at hl; omega
    unfold lcL
    cases ha : asg d (wipeE e vs) with
    | ok y1 =>
      rw [ha] at e1
      simp only [bind_ok] at e1 ⊢
      cases ht : test y1 with
      | ok y2 =>
        obtain ⟨b, y2⟩ := y2
        rw [ht] at e1
        simp only [bind_ok] at e1 ⊢
        by_cases hb : b = true
        · subst hb
          simp only [if_true] at e1 ⊢
          cases he : elt y2 with
          | ok y3 =>
            rw [he] at e1
            simp only [bind_ok, R.ok.injEq] at e1 ⊢
            subst e1
            rw [if_pos hlt]
            exact lcL_wp Q o ds _ _ (by simp only [List.length_append, List.length_cons, List.length_nil] at hl ⊢; omega) h1 fun d' hd => st d' (List.mem_cons_of_mem _ hd)
          | err _ _ _ => rw [he] at e1; cases e1
          | stuck => rw [he] at e1; cases e1
        · have hb' : b = false := by simpa using hb
          subst hb'
          simp only [Bool.false_eq_true, if_false, R.ok.injEq] at e1 ⊢
          subst e1
          exact lcL_wp Q o ds _ _ (by simp only [List.length_cons] at hl; omega) h1 fun d' hd => st d' (List.mem_cons_of_mem _ hd)
      | err _ _ _ => rw [ht] at e1; cases e1
      | stuck => rw [ht] at e1; cases e1
    | err _ _ _ => rw [ha] at e1; cases e1
    | stuck => rw [ha] at e1; cases e1
/-- a comprehension: what is made so far, and the slots -/
theorem lc_wp {vs : List Nat} {asg : D → En → R En} {test : En → R (Bool × En)} {elt : En → R (D × En)} {t1 t2 t3 f2 t4} {P : β → Prop} (Q : List D → En → Prop) {ds : List D} {e : En} (hl : ds.length ≤ sizeLine) (h0 : Q [] e)
    (st : ∀ d ∈ ds, ∀ acc e, Q acc e → Wp ((asg d (wipeE e vs)).bind fun e1 => (test e1).bind fun p => if p.1 then (elt p.2).bind fun q => .ok (some q.1, q.2) else .ok (none, p.2)) (fun r => match r.1 with | some x => Q (acc ++ [x]) r.2 | none => Q acc r.2))
    (k : ∀ out e', Q out e' → Wp (f2 (out, e')) P) : Wp (bnd (lcF vs asg test elt t1 t2 t3 ds [] e) f2 t4) P :=
  wp_bnd (wp_mono (lcL_wp Q (fun _ _ => True) ds [] e (by simpa using hl) h0 st) fun r h => k r.1 r.2 h)
/-- items by a function: kept as it says, or left out -/
theorem lcL_fm {vs : List Nat} {asg : D → En → R En} {test : En → R (Bool × En)} {elt : En → R (D × En)} (Q : En → Prop) (f : D → Option D) : ∀ (ds : List D) (e : En) (acc : List D), acc.length + ds.length ≤ sizeLine → Q e →
    (∀ d ∈ ds, ∀ e, Q e → Wp ((asg d (wipeE e vs)).bind fun e1 => (test e1).bind fun p => if p.1 then (elt p.2).bind fun q => .ok (some q.1, q.2) else .ok (none, p.2)) (fun r => r.1 = f d ∧ Q r.2)) →
    Wp (lcL vs asg test elt ds acc e) (fun r => r.1 = acc ++ ds.filterMap f ∧ Q r.2)
  | [], e, acc, _, h, _ => ⟨_, rfl, by simp, h⟩
  | d :: ds, e, acc, hl, h, st => by
    obtain ⟨r, e1, e2, h2⟩ := st d List.mem_cons_self e h
    have hlt : acc.length < sizeLine := by simp only [List.length_cons] at hl; omega
    unfold lcL
    cases ha : asg d (wipeE e vs) with
    | ok y1 =>
      rw [ha] at e1
      simp only [bind_ok] at e1 ⊢
      cases ht : test y1 with
      | ok y2 =>
        obtain ⟨b, y2⟩ := y2
        rw [ht] at e1
        simp only [bind_ok] at e1 ⊢
        by_cases hb : b = true
        · subst hb
          simp only [if_true] at e1 ⊢
          cases he : elt y2 with
          | ok y3 =>
            rw [he] at e1
            simp only [bind_ok, R.ok.injEq] at e1 ⊢
            subst e1
            rw [if_pos hlt]
            refine wp_mono (lcL_fm Q f ds y3.2 (acc ++ [y3.1]) (by simp only [List.length_append, List.length_cons, List.length_nil] at hl ⊢; omega) h2 fun d' hd => st d' (List.mem_cons_of_mem _ hd)) fun r ⟨q1, q2⟩ => ⟨?_, q2⟩
            rw [q1, List.filterMap_cons, ← e2]
            simp
          | err _ _ _ => rw [he] at e1; cases e1
          | stuck => rw [he] at e1; cases e1
        · have hb' : b = false := by simpa using hb
          subst hb'
          simp only [Bool.false_eq_true, if_false, R.ok.injEq] at e1 ⊢
          subst e1
          refine wp_mono (lcL_fm Q f ds _ acc (by simp only [List.length_cons] at hl; omega) h2 fun d' hd => st d' (List.mem_cons_of_mem _ hd)) fun r ⟨q1, q2⟩ => ⟨?_, q2⟩
          rw [q1, List.filterMap_cons, ← e2]
      | err _ _ _ => rw [ht] at e1; cases e1
      | stuck => rw [ht] at e1; cases e1
    | err _ _ _ => rw [ha] at e1; cases e1
    | stuck => rw [ha] at e1; cases e1
theorem lc_fm {vs : List Nat} {asg : D → En → R En} {test : En → R (Bool × En)} {elt : En → R (D × En)} {t1 t2 t3 f2 t4} {P : β → Prop} (Q : En → Prop) (f : D → Option D) {ds : List D} {e : En} (hl : ds.length ≤ sizeLine) (h0 : Q e)
    (st : ∀ d ∈ ds, ∀ e, Q e → Wp ((asg d (wipeE e vs)).bind fun e1 => (test e1).bind fun p => if p.1 then (elt p.2).bind fun q => .ok (some q.1, q.2) else .ok (none, p.2)) (fun r => r.1 = f d ∧ Q r.2))
    (k : ∀ e', Q e' → Wp (f2 (ds.filterMap f, e')) P) : Wp (bnd (lcF vs asg test elt t1 t2 t3 ds [] e) f2 t4) P :=
  wp_bnd (wp_mono (lcL_fm Q f ds e [] (by simpa using hl) h0 st) fun r ⟨h1, h2⟩ => by
    obtain ⟨a, b⟩ := r
    simp only [List.nil_append] at h1
    subst h1
    exact k b h2)
/-- all items kept, each by a function -/
theorem lc_map {vs : List Nat} {asg : D → En → R En} {test : En → R (Bool × En)} {elt : En → R (D × En)} {t1 t2 t3 f2 t4} {P : β → Prop} (Q : En → Prop) (f : D → D) {ds : List D} {e : En} (hl : ds.length ≤ sizeLine) (h0 : Q e)
    (st : ∀ d ∈ ds, ∀ e, Q e → Wp ((asg d (wipeE e vs)).bind fun e1 => (test e1).bind fun p => if p.1 then (elt p.2).bind fun q => .ok (some q.1, q.2) else .ok (none, p.2)) (fun r => r.1 = some (f d) ∧ Q r.2))
    (k : ∀ e', Q e' → Wp (f2 (ds.map f, e')) P) : Wp (bnd (lcF vs asg test elt t1 t2 t3 ds [] e) f2 t4) P :=
  lc_fm Q (fun d => some (f d)) hl h0 st fun e' h => by
    have : ds.filterMap (fun d => some (f d)) = ds.map f := by rw [← List.filterMap_eq_map]; rfl
    rw [this]; exact k e' h
/-- .. told turn by turn -/
theorem lcL_ix {vs : List Nat} {asg : D → En → R En} {test : En → R (Bool × En)} {elt : En → R (D × En)} (Q : Nat → List D → En → Prop) : ∀ (ds : List D) (i : Nat) (acc : List D) (e : En), acc.length + ds.length ≤ sizeLine → Q i acc e →
    (∀ j d acc e, ds[j]? = some d → Q (i + j) acc e → Wp ((asg d (wipeE e vs)).bind fun e1 => (test e1).bind fun p => if p.1 then (elt p.2).bind fun q => .ok (some q.1, q.2) else .ok (none, p.2)) (fun r => match r.1 with | some x => Q (i + j + 1) (acc ++ [x]) r.2 | none => Q (i + j + 1) acc r.2)) →
    Wp (lcL vs asg test elt ds acc e) (fun r => Q (i + ds.length) r.1 r.2)
  | [], i, acc, e, _, h, _ => ⟨_, rfl, h⟩
  | d :: ds, i, acc, e, hl, h, st => by
    obtain ⟨r, e1, h1⟩ := st 0 d acc e rfl h
    have hlt : acc.length < sizeLine := by simp only [List.length_cons] at hl; omega
    have more : ∀ acc' e', acc'.length + ds.length ≤ sizeLine → Q (i + 1) acc' e' → Wp (lcL vs asg test elt ds acc' e') (fun r => Q (i + (d :: ds).length) r.1 r.2) := fun acc' e' hl' hq => by
      have := lcL_ix Q ds (i + 1) acc' e' hl' hq fun j d acc e hd hp => by
        have := st (j + 1) d acc e (by simpa using hd) (by rwa [show i + (j + 1) = i + 1 + j by omega])
        rwa [show i + (j + 1) + 1 = i + 1 + j + 1 by omega] at this
      rwa [show i + 1 + ds.length = i + (d :: ds).length by simp only [List.length_cons]; omega] at this
    unfold lcL
    cases ha : asg d (wipeE e vs) with
    | ok y1 =>
      rw [ha] at e1
      simp only [bind_ok] at e1 ⊢
      cases ht : test y1 with
      | ok y2 =>
        obtain ⟨b, y2⟩ := y2
        rw [ht] at e1
        simp only [bind_ok] at e1 ⊢
        by_cases hb : b = true
        · subst hb
          simp only [if_true] at e1 ⊢
          cases he : elt y2 with
          | ok y3 =>
            rw [he] at e1
            simp only [bind_ok, R.ok.injEq] at e1 ⊢
            subst e1
            rw [if_pos hlt]
            exact more _ _ (by simp only [List.length_append, List.length_cons, List.length_nil] at hl ⊢; omega) h1
          | err _ _ _ => rw [he] at e1; cases e1
          | stuck => rw [he] at e1; cases e1
        · have hb' : b = false := by simpa using hb
          subst hb'
          simp only [Bool.false_eq_true, if_false, R.ok.injEq] at e1 ⊢
          subst e1
          exact more _ _ (by simp only [List.length_cons] at hl; omega) h1
      | err _ _ _ => rw [ht] at e1; cases e1
      | stuck => rw [ht] at e1; cases e1
    | err _ _ _ => rw [ha] at e1; cases e1
    | stuck => rw [ha] at e1; cases e1
theorem lc_ix {vs : List Nat} {asg : D → En → R En} {test : En → R (Bool × En)} {elt : En → R (D × En)} {t1 t2 t3 f2 t4} {P : β → Prop} (Q : Nat → List D → En → Prop) {ds : List D} {e : En} (hl : ds.length ≤ sizeLine) (h0 : Q 0 [] e)
    (st : ∀ j d acc e, ds[j]? = some d → Q j acc e → Wp ((asg d (wipeE e vs)).bind fun e1 => (test e1).bind fun p => if p.1 then (elt p.2).bind fun q => .ok (some q.1, q.2) else .ok (none, p.2)) (fun r => match r.1 with | some x => Q (j + 1) (acc ++ [x]) r.2 | none => Q (j + 1) acc r.2))
    (k : ∀ out e', Q ds.length out e' → Wp (f2 (out, e')) P) : Wp (bnd (lcF vs asg test elt t1 t2 t3 ds [] e) f2 t4) P :=
  wp_bnd (wp_mono (lcL_ix Q ds 0 [] e (by simpa using hl) h0 fun j d acc e hd hq => by
    have := st j d acc e hd (by simpa using hq)
    simpa using this) fun r h => k r.1 r.2 (by simpa using h))
/-- a loop: P before each turn, Z what is returned within -/
theorem for_wp {asg : D → En → R En} {body : En → R Fl} {t1 t2 f2 t4} {Pf : β → Prop} (P : Nat → En → Prop) (Z : D → En → Prop) {ds : List D} {e : En} (h0 : P 0 e)
    (st : ∀ j d e, ds[j]? = some d → P j e → Wp ((asg d e).bind body) (fun fl => match fl with | .nx e2 => P (j + 1) e2 | .ct e2 => P (j + 1) e2 | .rt x e2 => Z x e2 | .bk e2 => P ds.length e2))
    (k : ∀ e', P ds.length e' → Wp (f2 (.nx e')) Pf) (kr : ∀ x e', Z x e' → Wp (f2 (.rt x e')) Pf) : Wp (bnd (forF asg body t1 t2 ds e) f2 t4) Pf := by
  have go : ∀ (r : List D) (i : Nat) (e : En), i + r.length = ds.length → (∀ j d e, r[j]? = some d → P (i + j) e → Wp ((asg d e).bind body) (fun fl => match fl with | .nx e2 => P (i + j + 1) e2 | .ct e2 => P (i + j + 1) e2 | .rt x e2 => Z x e2 | .bk e2 => P ds.length e2)) → P i e →
      Wp (forL asg body r e) (fun fl => match fl with | .nx e2 => P ds.length e2 | .rt x e2 => Z x e2 | _ => False) := by
    intro r
    induction r with
    | nil => intro i e hl _ h; exact ⟨_, rfl, by simp only [List.length_nil, Nat.add_zero] at hl; rw [← hl]; exact h⟩
    | cons d r ih =>
      intro i e hl st h
      obtain ⟨fl, e1, h1⟩ := st 0 d e rfl h
      have rec_ : ∀ e2, P (i + 1) e2 → Wp (forL asg body r e2) (fun fl => match fl with | .nx e2 => P ds.length e2 | .rt x e2 => Z x e2 | _ => False) := fun e2 h2 =>
        ih (i + 1) e2 (by simp only [List.length_cons] at hl; omega) (fun j d e hd hp => by
          have := st (j + 1) d e (by simpa using hd) (by rwa [show i + (j + 1) = i + 1 + j by omega])
          rwa [show i + (j + 1) + 1 = i + 1 + j + 1 by omega] at this) h2
      unfold forL
      cases ha : asg d e with
      | ok y =>
        rw [ha] at e1
        simp only [bind_ok] at e1 ⊢
        rw [e1, bind_ok]
        cases fl with
        | nx e2 => exact rec_ e2 h1
        | ct e2 => exact rec_ e2 h1
        | bk e2 => exact ⟨_, rfl, h1⟩
        | rt x e2 => exact ⟨_, rfl, h1⟩
      | err _ _ _ => rw [ha] at e1; cases e1
      | stuck => rw [ha] at e1; cases e1
  refine wp_bnd (wp_mono (go ds 0 e (by simp) (fun j d e hd hp => by have := st j d e hd (by simpa using hp); simpa using this) h0) fun fl h => ?_)
  cases fl with
  | nx e2 => exact k e2 h
  | rt x e2 => exact kr x e2 h
  | bk e2 => exact h.elim
  | ct e2 => exact h.elim
end
end Ev

set_option Elab.async false
set_option linter.all false
set_option maxRecDepth 100000
namespace K19
open PySem L2 Ev
abbrev s (x : String) : Str := Str.ofString x
abbrev top (i : Nat) : Stmt := PySem.Challenge.pw_allclocks_k19_bounds_tables_zones.main.body.getD i (.Pass ⟨0, 0, 0, 0⟩)
def cM : Gb := { consts := [(s "MOST_THINGS", (.int (6)))], defs := [s "is_whole", s "is_bound", s "is_bound_marks", s "add_bounds", s "add_bounds_marks", s "is_tighter", s "tight", s "close_table", s "is_table_in", s "is_zone_of", s "is_table_value", s "is_zone_value", s "add_bounds_tables", s "is_bound_tables", s "is_table", s "is_zone", s "_law_dice", s "_law_roll", s "_law_pick", s "_law_common", s "_law_share", s "_law_plus", s "_law_is_whole", s "_law_sum", s "_law_tight", s "_law_closed", s "_law_holds", s "_law_is_table", s "_law_is_zone", s "_law_drawn_table", s "_law_drawn_zone", s "_law_drawn_bound", s "_law_holds_sum", s "_law_right", s "law"], free := [s "len", s "abs", s "max", s "min", s "int", s "isinstance", s "list", s "tuple", s "any", s "all", s "repr", s "range", s "enumerate", s "bool"] }
def d_is_whole : Df := { st := top 4, N := [s "value"], np := 1 }
def d_is_bound : Df := { st := top 22, N := [s "value"], np := 1 }
def d_is_bound_marks : Df := { st := top 6, N := [s "value"], np := 1 }
def d_add_bounds : Df := { st := top 20, N := [s "one", s "other"], np := 2 }
def d_add_bounds_marks : Df := { st := top 8, N := [s "one", s "other"], np := 2 }
def d_is_tighter : Df := { st := top 10, N := [s "one", s "other"], np := 2 }
def d_tight : Df := { st := top 11, N := [s "one", s "other"], np := 2 }
def d_close_table : Df := { st := top 13, N := [s "table", s "size", s "rows", s "at", s "row", s "column", s "bound", s "middle", s "one", s "other", s "way"], np := 1 }
def d_is_table_in : Df := { st := top 14, N := [s "size", s "value", s "one", s "row"], np := 2 }
def d_is_zone_of : Df := { st := top 17, N := [s "size", s "value", s "bound"], np := 2 }
def d_is_table_value : Df := { st := top 18, N := [s "value"], np := 1 }
def d_is_zone_value : Df := { st := top 19, N := [s "value"], np := 1 }
def d_add_bounds_tables : Df := { st := top 20, N := [s "one", s "other"], np := 2 }
def d_is_bound_tables : Df := { st := top 22, N := [s "value"], np := 1 }
def d_is_table : Df := { st := top 24, N := [s "value"], np := 1 }
def d_is_zone : Df := { st := top 25, N := [s "value"], np := 1 }
def d__law_dice : Df := { st := top 27, N := [s "script", s "spot", s "cell", s "great"], np := 2 }
def d__law_roll : Df := { st := top 28, N := [s "dice", s "total", s "found", s "one", s "two"], np := 2 }
def d__law_pick : Df := { st := top 29, N := [s "dice", s "items"], np := 2 }
def d__law_common : Df := { st := top 30, N := [s "one", s "other"], np := 2 }
def d__law_share : Df := { st := top 31, N := [s "top", s "bottom", s "common"], np := 2 }
def d__law_plus : Df := { st := top 32, N := [s "one", s "other"], np := 2 }
def d__law_is_whole : Df := { st := top 33, N := [s "value"], np := 1 }
def d__law_sum : Df := { st := top 34, N := [s "one", s "other"], np := 2 }
def d__law_tight : Df := { st := top 35, N := [s "one", s "other"], np := 2 }
def d__law_closed : Df := { st := top 36, N := [s "table", s "size", s "rows", s "row", s "at", s "middle", s "one", s "other"], np := 1 }
def d__law_holds : Df := { st := top 37, N := [s "difference", s "bound"], np := 2 }
def d__law_is_table : Df := { st := top 38, N := [s "value", s "row", s "one"], np := 1 }
def d__law_is_zone : Df := { st := top 39, N := [s "value"], np := 1 }
def d__law_drawn_table : Df := { st := top 40, N := [s "dice", s "most", s "size", s "found", s "row", s "some", s "column", s "way", s "bound"], np := 2 }
def d__law_drawn_zone : Df := { st := top 41, N := [s "dice", s "size", s "turn", s "rows", s "row", s "some", s "column", s "bound", s "found"], np := 2 }
def d__law_drawn_bound : Df := { st := top 42, N := [s "dice"], np := 1 }
def d__law_holds_sum : Df := { st := top 43, N := [s "dice", s "one", s "other", s "told", s "turn", s "first", s "last"], np := 3 }
def d__law_right : Df := { st := top 44, N := [s "dice", s "one", s "other", s "third", s "near", s "value", s "due", s "table", s "zone", s "some", s "values", s "at", s "to", s "bound", s "row"], np := 1 }
def d_law : Df := { st := top 45, N := [s "script", s "spot", s "dice", s "turn", s "six", s "told"], np := 1 }
def cT : List (Str × Df) := [(s "is_whole", d_is_whole), (s "is_bound", d_is_bound), (s "is_bound_marks", d_is_bound_marks), (s "add_bounds", d_add_bounds), (s "add_bounds_marks", d_add_bounds_marks), (s "is_tighter", d_is_tighter), (s "tight", d_tight), (s "close_table", d_close_table), (s "is_table_in", d_is_table_in), (s "is_zone_of", d_is_zone_of), (s "is_table_value", d_is_table_value), (s "is_zone_value", d_is_zone_value), (s "add_bounds_tables", d_add_bounds_tables), (s "is_bound_tables", d_is_bound_tables), (s "is_table", d_is_table), (s "is_zone", d_is_zone), (s "_law_dice", d__law_dice), (s "_law_roll", d__law_roll), (s "_law_pick", d__law_pick), (s "_law_common", d__law_common), (s "_law_share", d__law_share), (s "_law_plus", d__law_plus), (s "_law_is_whole", d__law_is_whole), (s "_law_sum", d__law_sum), (s "_law_tight", d__law_tight), (s "_law_closed", d__law_closed), (s "_law_holds", d__law_holds), (s "_law_is_table", d__law_is_table), (s "_law_is_zone", d__law_is_zone), (s "_law_drawn_table", d__law_drawn_table), (s "_law_drawn_zone", d__law_drawn_zone), (s "_law_drawn_bound", d__law_drawn_bound), (s "_law_holds_sum", d__law_holds_sum), (s "_law_right", d__law_right), (s "law", d_law)]
theorem s_is_whole : DfS d_is_whole (s "is_whole") (s "is_whole") [s "value"] := ⟨⟨rfl, rfl, rfl, by decide +kernel, rfl, by decide +kernel, by decide +kernel⟩, rfl, by decide +kernel, fun _ _ _ _ _ _ us hl => match us, hl with | [_], _ => rfl⟩
theorem s_is_bound : DfS d_is_bound (s "is_bound") (s "is_bound") [s "value"] := ⟨⟨rfl, rfl, rfl, by decide +kernel, rfl, by decide +kernel, by decide +kernel⟩, rfl, by decide +kernel, fun _ _ _ _ _ _ us hl => match us, hl with | [_], _ => rfl⟩
theorem s_is_bound_marks : DfS d_is_bound_marks (s "is_bound") (s "is_bound") [s "value"] := ⟨⟨rfl, rfl, rfl, by decide +kernel, rfl, by decide +kernel, by decide +kernel⟩, rfl, by decide +kernel, fun _ _ _ _ _ _ us hl => match us, hl with | [_], _ => rfl⟩
theorem s_add_bounds : DfS d_add_bounds (s "add_bounds") (s "add_bounds") [s "one", s "other"] := ⟨⟨rfl, rfl, rfl, by decide +kernel, rfl, by decide +kernel, by decide +kernel⟩, rfl, by decide +kernel, fun _ _ _ _ _ _ us hl => match us, hl with | [_, _], _ => rfl⟩
theorem s_add_bounds_marks : DfS d_add_bounds_marks (s "add_bounds") (s "add_bounds") [s "one", s "other"] := ⟨⟨rfl, rfl, rfl, by decide +kernel, rfl, by decide +kernel, by decide +kernel⟩, rfl, by decide +kernel, fun _ _ _ _ _ _ us hl => match us, hl with | [_, _], _ => rfl⟩
theorem s_is_tighter : DfS d_is_tighter (s "is_tighter") (s "is_tighter") [s "one", s "other"] := ⟨⟨rfl, rfl, rfl, by decide +kernel, rfl, by decide +kernel, by decide +kernel⟩, rfl, by decide +kernel, fun _ _ _ _ _ _ us hl => match us, hl with | [_, _], _ => rfl⟩
theorem s_tight : DfS d_tight (s "tight") (s "tight") [s "one", s "other"] := ⟨⟨rfl, rfl, rfl, by decide +kernel, rfl, by decide +kernel, by decide +kernel⟩, rfl, by decide +kernel, fun _ _ _ _ _ _ us hl => match us, hl with | [_, _], _ => rfl⟩
theorem s_close_table : DfS d_close_table (s "close_table") (s "close_table") [s "table"] := ⟨⟨rfl, rfl, rfl, by decide +kernel, rfl, by decide +kernel, by decide +kernel⟩, rfl, by decide +kernel, fun _ _ _ _ _ _ us hl => match us, hl with | [_], _ => rfl⟩
theorem s_is_table_in : DfS d_is_table_in (s "is_table_in") (s "is_table_in") [s "size", s "value"] := ⟨⟨rfl, rfl, rfl, by decide +kernel, rfl, by decide +kernel, by decide +kernel⟩, rfl, by decide +kernel, fun _ _ _ _ _ _ us hl => match us, hl with | [_, _], _ => rfl⟩
theorem s_is_zone_of : DfS d_is_zone_of (s "is_zone_of") (s "is_zone_of") [s "size", s "value"] := ⟨⟨rfl, rfl, rfl, by decide +kernel, rfl, by decide +kernel, by decide +kernel⟩, rfl, by decide +kernel, fun _ _ _ _ _ _ us hl => match us, hl with | [_, _], _ => rfl⟩
theorem s_is_table_value : DfS d_is_table_value (s "is_table_value") (s "is_table_value") [s "value"] := ⟨⟨rfl, rfl, rfl, by decide +kernel, rfl, by decide +kernel, by decide +kernel⟩, rfl, by decide +kernel, fun _ _ _ _ _ _ us hl => match us, hl with | [_], _ => rfl⟩
theorem s_is_zone_value : DfS d_is_zone_value (s "is_zone_value") (s "is_zone_value") [s "value"] := ⟨⟨rfl, rfl, rfl, by decide +kernel, rfl, by decide +kernel, by decide +kernel⟩, rfl, by decide +kernel, fun _ _ _ _ _ _ us hl => match us, hl with | [_], _ => rfl⟩
theorem s_add_bounds_tables : DfS d_add_bounds_tables (s "add_bounds") (s "add_bounds") [s "one", s "other"] := ⟨⟨rfl, rfl, rfl, by decide +kernel, rfl, by decide +kernel, by decide +kernel⟩, rfl, by decide +kernel, fun _ _ _ _ _ _ us hl => match us, hl with | [_, _], _ => rfl⟩
theorem s_is_bound_tables : DfS d_is_bound_tables (s "is_bound") (s "is_bound") [s "value"] := ⟨⟨rfl, rfl, rfl, by decide +kernel, rfl, by decide +kernel, by decide +kernel⟩, rfl, by decide +kernel, fun _ _ _ _ _ _ us hl => match us, hl with | [_], _ => rfl⟩
theorem s_is_table : DfS d_is_table (s "is_table") (s "is_table") [s "value"] := ⟨⟨rfl, rfl, rfl, by decide +kernel, rfl, by decide +kernel, by decide +kernel⟩, rfl, by decide +kernel, fun _ _ _ _ _ _ us hl => match us, hl with | [_], _ => rfl⟩
theorem s_is_zone : DfS d_is_zone (s "is_zone") (s "is_zone") [s "value"] := ⟨⟨rfl, rfl, rfl, by decide +kernel, rfl, by decide +kernel, by decide +kernel⟩, rfl, by decide +kernel, fun _ _ _ _ _ _ us hl => match us, hl with | [_], _ => rfl⟩
theorem s__law_dice : DfS d__law_dice (s "_law_dice") (s "_law_dice") [s "script", s "spot"] := ⟨⟨rfl, rfl, rfl, by decide +kernel, rfl, by decide +kernel, by decide +kernel⟩, rfl, by decide +kernel, fun _ _ _ _ _ _ us hl => match us, hl with | [_, _], _ => rfl⟩
theorem s__law_roll : DfS d__law_roll (s "_law_roll") (s "_law_roll") [s "dice", s "total"] := ⟨⟨rfl, rfl, rfl, by decide +kernel, rfl, by decide +kernel, by decide +kernel⟩, rfl, by decide +kernel, fun _ _ _ _ _ _ us hl => match us, hl with | [_, _], _ => rfl⟩
theorem s__law_pick : DfS d__law_pick (s "_law_pick") (s "_law_pick") [s "dice", s "items"] := ⟨⟨rfl, rfl, rfl, by decide +kernel, rfl, by decide +kernel, by decide +kernel⟩, rfl, by decide +kernel, fun _ _ _ _ _ _ us hl => match us, hl with | [_, _], _ => rfl⟩
theorem s__law_common : DfS d__law_common (s "_law_common") (s "_law_common") [s "one", s "other"] := ⟨⟨rfl, rfl, rfl, by decide +kernel, rfl, by decide +kernel, by decide +kernel⟩, rfl, by decide +kernel, fun _ _ _ _ _ _ us hl => match us, hl with | [_, _], _ => rfl⟩
theorem s__law_share : DfS d__law_share (s "_law_share") (s "_law_share") [s "top", s "bottom"] := ⟨⟨rfl, rfl, rfl, by decide +kernel, rfl, by decide +kernel, by decide +kernel⟩, rfl, by decide +kernel, fun _ _ _ _ _ _ us hl => match us, hl with | [_, _], _ => rfl⟩
theorem s__law_plus : DfS d__law_plus (s "_law_plus") (s "_law_plus") [s "one", s "other"] := ⟨⟨rfl, rfl, rfl, by decide +kernel, rfl, by decide +kernel, by decide +kernel⟩, rfl, by decide +kernel, fun _ _ _ _ _ _ us hl => match us, hl with | [_, _], _ => rfl⟩
theorem s__law_is_whole : DfS d__law_is_whole (s "_law_is_whole") (s "_law_is_whole") [s "value"] := ⟨⟨rfl, rfl, rfl, by decide +kernel, rfl, by decide +kernel, by decide +kernel⟩, rfl, by decide +kernel, fun _ _ _ _ _ _ us hl => match us, hl with | [_], _ => rfl⟩
theorem s__law_sum : DfS d__law_sum (s "_law_sum") (s "_law_sum") [s "one", s "other"] := ⟨⟨rfl, rfl, rfl, by decide +kernel, rfl, by decide +kernel, by decide +kernel⟩, rfl, by decide +kernel, fun _ _ _ _ _ _ us hl => match us, hl with | [_, _], _ => rfl⟩
theorem s__law_tight : DfS d__law_tight (s "_law_tight") (s "_law_tight") [s "one", s "other"] := ⟨⟨rfl, rfl, rfl, by decide +kernel, rfl, by decide +kernel, by decide +kernel⟩, rfl, by decide +kernel, fun _ _ _ _ _ _ us hl => match us, hl with | [_, _], _ => rfl⟩
theorem s__law_closed : DfS d__law_closed (s "_law_closed") (s "_law_closed") [s "table"] := ⟨⟨rfl, rfl, rfl, by decide +kernel, rfl, by decide +kernel, by decide +kernel⟩, rfl, by decide +kernel, fun _ _ _ _ _ _ us hl => match us, hl with | [_], _ => rfl⟩
theorem s__law_holds : DfS d__law_holds (s "_law_holds") (s "_law_holds") [s "difference", s "bound"] := ⟨⟨rfl, rfl, rfl, by decide +kernel, rfl, by decide +kernel, by decide +kernel⟩, rfl, by decide +kernel, fun _ _ _ _ _ _ us hl => match us, hl with | [_, _], _ => rfl⟩
theorem s__law_is_table : DfS d__law_is_table (s "_law_is_table") (s "_law_is_table") [s "value"] := ⟨⟨rfl, rfl, rfl, by decide +kernel, rfl, by decide +kernel, by decide +kernel⟩, rfl, by decide +kernel, fun _ _ _ _ _ _ us hl => match us, hl with | [_], _ => rfl⟩
theorem s__law_is_zone : DfS d__law_is_zone (s "_law_is_zone") (s "_law_is_zone") [s "value"] := ⟨⟨rfl, rfl, rfl, by decide +kernel, rfl, by decide +kernel, by decide +kernel⟩, rfl, by decide +kernel, fun _ _ _ _ _ _ us hl => match us, hl with | [_], _ => rfl⟩
theorem s__law_drawn_table : DfS d__law_drawn_table (s "_law_drawn_table") (s "_law_drawn_table") [s "dice", s "most"] := ⟨⟨rfl, rfl, rfl, by decide +kernel, rfl, by decide +kernel, by decide +kernel⟩, rfl, by decide +kernel, fun _ _ _ _ _ _ us hl => match us, hl with | [_, _], _ => rfl⟩
theorem s__law_drawn_zone : DfS d__law_drawn_zone (s "_law_drawn_zone") (s "_law_drawn_zone") [s "dice", s "size"] := ⟨⟨rfl, rfl, rfl, by decide +kernel, rfl, by decide +kernel, by decide +kernel⟩, rfl, by decide +kernel, fun _ _ _ _ _ _ us hl => match us, hl with | [_, _], _ => rfl⟩
theorem s__law_drawn_bound : DfS d__law_drawn_bound (s "_law_drawn_bound") (s "_law_drawn_bound") [s "dice"] := ⟨⟨rfl, rfl, rfl, by decide +kernel, rfl, by decide +kernel, by decide +kernel⟩, rfl, by decide +kernel, fun _ _ _ _ _ _ us hl => match us, hl with | [_], _ => rfl⟩
theorem s__law_holds_sum : DfS d__law_holds_sum (s "_law_holds_sum") (s "_law_holds_sum") [s "dice", s "one", s "other"] := ⟨⟨rfl, rfl, rfl, by decide +kernel, rfl, by decide +kernel, by decide +kernel⟩, rfl, by decide +kernel, fun _ _ _ _ _ _ us hl => match us, hl with | [_, _, _], _ => rfl⟩
theorem s__law_right : DfS d__law_right (s "_law_right") (s "_law_right") [s "dice"] := ⟨⟨rfl, rfl, rfl, by decide +kernel, rfl, by decide +kernel, by decide +kernel⟩, rfl, by decide +kernel, fun _ _ _ _ _ _ us hl => match us, hl with | [_], _ => rfl⟩
theorem s_law : DfS d_law (s "law") (s "law") [s "script"] := ⟨⟨rfl, rfl, rfl, by decide +kernel, rfl, by decide +kernel, by decide +kernel⟩, rfl, by decide +kernel, fun _ _ _ _ _ _ us hl => match us, hl with | [_], _ => rfl⟩
theorem all_in : (cM.defs.all fun f => (cT.lookup f).isSome) = true := by decide +kernel
theorem nm_in : nmOk cM = true := by decide +kernel
end K19

set_option Elab.async false
set_option linter.all false
set_option maxRecDepth 100000
namespace K19
open PySem L2 Ev
theorem l_is_whole_isinstance : slotOf d_is_whole.N (Str.ofString "isinstance") = none := by kernel_rfl
theorem w_is_whole_isinstance (b) : Cn.glob (gOf d_is_whole b) (Str.ofString "isinstance") = true := by kernel_rfl
theorem l_is_whole_value : slotOf d_is_whole.N (Str.ofString "value") = some 0 := by kernel_rfl
theorem v_is_whole_value (b) : Cn.vis (gOf d_is_whole b) (Str.ofString "value") = true := by kernel_rfl
theorem o_is_whole_value (b) : Cn.loc (gOf d_is_whole b) (Str.ofString "value") = true := by kernel_rfl
theorem l_is_whole_int : slotOf d_is_whole.N (Str.ofString "int") = none := by kernel_rfl
theorem w_is_whole_int (b) : Cn.glob (gOf d_is_whole b) (Str.ofString "int") = true := by kernel_rfl
theorem l_is_whole_bool : slotOf d_is_whole.N (Str.ofString "bool") = none := by kernel_rfl
theorem w_is_whole_bool (b) : Cn.glob (gOf d_is_whole b) (Str.ofString "bool") = true := by kernel_rfl
theorem l_is_bound_is_bound_marks : slotOf d_is_bound.N (Str.ofString "is_bound_marks") = none := by kernel_rfl
theorem w_is_bound_is_bound_marks (b) : Cn.glob (gOf d_is_bound b) (Str.ofString "is_bound_marks") = true := by kernel_rfl
theorem l_is_bound_value : slotOf d_is_bound.N (Str.ofString "value") = some 0 := by kernel_rfl
theorem v_is_bound_value (b) : Cn.vis (gOf d_is_bound b) (Str.ofString "value") = true := by kernel_rfl
theorem o_is_bound_value (b) : Cn.loc (gOf d_is_bound b) (Str.ofString "value") = true := by kernel_rfl
theorem l_is_bound_marks_value : slotOf d_is_bound_marks.N (Str.ofString "value") = some 0 := by kernel_rfl
theorem v_is_bound_marks_value (b) : Cn.vis (gOf d_is_bound_marks b) (Str.ofString "value") = true := by kernel_rfl
theorem o_is_bound_marks_value (b) : Cn.loc (gOf d_is_bound_marks b) (Str.ofString "value") = true := by kernel_rfl
theorem l_is_bound_marks_is_whole : slotOf d_is_bound_marks.N (Str.ofString "is_whole") = none := by kernel_rfl
theorem w_is_bound_marks_is_whole (b) : Cn.glob (gOf d_is_bound_marks b) (Str.ofString "is_whole") = true := by kernel_rfl
theorem l_add_bounds_add_bounds_marks : slotOf d_add_bounds.N (Str.ofString "add_bounds_marks") = none := by kernel_rfl
theorem w_add_bounds_add_bounds_marks (b) : Cn.glob (gOf d_add_bounds b) (Str.ofString "add_bounds_marks") = true := by kernel_rfl
theorem l_add_bounds_one : slotOf d_add_bounds.N (Str.ofString "one") = some 0 := by kernel_rfl
theorem v_add_bounds_one (b) : Cn.vis (gOf d_add_bounds b) (Str.ofString "one") = true := by kernel_rfl
theorem o_add_bounds_one (b) : Cn.loc (gOf d_add_bounds b) (Str.ofString "one") = true := by kernel_rfl
theorem l_add_bounds_other : slotOf d_add_bounds.N (Str.ofString "other") = some 1 := by kernel_rfl
theorem v_add_bounds_other (b) : Cn.vis (gOf d_add_bounds b) (Str.ofString "other") = true := by kernel_rfl
theorem o_add_bounds_other (b) : Cn.loc (gOf d_add_bounds b) (Str.ofString "other") = true := by kernel_rfl
theorem l_add_bounds_InvalidOperation : slotOf d_add_bounds.N (Str.ofString "InvalidOperation") = none := by kernel_rfl
theorem w_add_bounds_InvalidOperation (b) : Cn.glob (gOf d_add_bounds b) (Str.ofString "InvalidOperation") = true := by kernel_rfl
theorem l_add_bounds_is_bound_marks : slotOf d_add_bounds.N (Str.ofString "is_bound_marks") = none := by kernel_rfl
theorem w_add_bounds_is_bound_marks (b) : Cn.glob (gOf d_add_bounds b) (Str.ofString "is_bound_marks") = true := by kernel_rfl
theorem l_add_bounds_marks_one : slotOf d_add_bounds_marks.N (Str.ofString "one") = some 0 := by kernel_rfl
theorem v_add_bounds_marks_one (b) : Cn.vis (gOf d_add_bounds_marks b) (Str.ofString "one") = true := by kernel_rfl
theorem o_add_bounds_marks_one (b) : Cn.loc (gOf d_add_bounds_marks b) (Str.ofString "one") = true := by kernel_rfl
theorem l_add_bounds_marks_other : slotOf d_add_bounds_marks.N (Str.ofString "other") = some 1 := by kernel_rfl
theorem v_add_bounds_marks_other (b) : Cn.vis (gOf d_add_bounds_marks b) (Str.ofString "other") = true := by kernel_rfl
theorem o_add_bounds_marks_other (b) : Cn.loc (gOf d_add_bounds_marks b) (Str.ofString "other") = true := by kernel_rfl
theorem l_is_tighter_one : slotOf d_is_tighter.N (Str.ofString "one") = some 0 := by kernel_rfl
theorem v_is_tighter_one (b) : Cn.vis (gOf d_is_tighter b) (Str.ofString "one") = true := by kernel_rfl
theorem o_is_tighter_one (b) : Cn.loc (gOf d_is_tighter b) (Str.ofString "one") = true := by kernel_rfl
theorem l_is_tighter_other : slotOf d_is_tighter.N (Str.ofString "other") = some 1 := by kernel_rfl
theorem v_is_tighter_other (b) : Cn.vis (gOf d_is_tighter b) (Str.ofString "other") = true := by kernel_rfl
theorem o_is_tighter_other (b) : Cn.loc (gOf d_is_tighter b) (Str.ofString "other") = true := by kernel_rfl
theorem l_tight_one : slotOf d_tight.N (Str.ofString "one") = some 0 := by kernel_rfl
theorem v_tight_one (b) : Cn.vis (gOf d_tight b) (Str.ofString "one") = true := by kernel_rfl
theorem o_tight_one (b) : Cn.loc (gOf d_tight b) (Str.ofString "one") = true := by kernel_rfl
theorem l_tight_other : slotOf d_tight.N (Str.ofString "other") = some 1 := by kernel_rfl
theorem v_tight_other (b) : Cn.vis (gOf d_tight b) (Str.ofString "other") = true := by kernel_rfl
theorem o_tight_other (b) : Cn.loc (gOf d_tight b) (Str.ofString "other") = true := by kernel_rfl
theorem l_tight_is_tighter : slotOf d_tight.N (Str.ofString "is_tighter") = none := by kernel_rfl
theorem w_tight_is_tighter (b) : Cn.glob (gOf d_tight b) (Str.ofString "is_tighter") = true := by kernel_rfl
theorem l_close_table_dot0 : slotOf d_close_table.N (Str.ofString ".0") = none := by kernel_rfl
theorem l_close_table_size : slotOf d_close_table.N (Str.ofString "size") = some 1 := by kernel_rfl
theorem v_close_table_size (b) : Cn.vis (gOf d_close_table b) (Str.ofString "size") = true := by kernel_rfl
theorem o_close_table_size (b) : Cn.loc (gOf d_close_table b) (Str.ofString "size") = true := by kernel_rfl
theorem l_close_table_rows : slotOf d_close_table.N (Str.ofString "rows") = some 2 := by kernel_rfl
theorem v_close_table_rows (b) : Cn.vis (gOf d_close_table b) (Str.ofString "rows") = true := by kernel_rfl
theorem o_close_table_rows (b) : Cn.loc (gOf d_close_table b) (Str.ofString "rows") = true := by kernel_rfl
theorem l_close_table_middle : slotOf d_close_table.N (Str.ofString "middle") = some 7 := by kernel_rfl
theorem v_close_table_middle (b) : Cn.vis (gOf d_close_table b) (Str.ofString "middle") = true := by kernel_rfl
theorem o_close_table_middle (b) : Cn.loc (gOf d_close_table b) (Str.ofString "middle") = true := by kernel_rfl
theorem l_close_table_len : slotOf d_close_table.N (Str.ofString "len") = none := by kernel_rfl
theorem w_close_table_len (b) : Cn.glob (gOf d_close_table b) (Str.ofString "len") = true := by kernel_rfl
theorem l_close_table_table : slotOf d_close_table.N (Str.ofString "table") = some 0 := by kernel_rfl
theorem v_close_table_table (b) : Cn.vis (gOf d_close_table b) (Str.ofString "table") = true := by kernel_rfl
theorem o_close_table_table (b) : Cn.loc (gOf d_close_table b) (Str.ofString "table") = true := by kernel_rfl
theorem l_close_table_at : slotOf d_close_table.N (Str.ofString "at") = some 3 := by kernel_rfl
theorem v_close_table_at (b) : Cn.vis (gOf d_close_table b) (Str.ofString "at") = true := by kernel_rfl
theorem o_close_table_at (b) : Cn.loc (gOf d_close_table b) (Str.ofString "at") = true := by kernel_rfl
theorem l_close_table_row : slotOf d_close_table.N (Str.ofString "row") = some 4 := by kernel_rfl
theorem v_close_table_row (b) : Cn.vis (gOf d_close_table b) (Str.ofString "row") = true := by kernel_rfl
theorem o_close_table_row (b) : Cn.loc (gOf d_close_table b) (Str.ofString "row") = true := by kernel_rfl
theorem l_close_table_enumerate : slotOf d_close_table.N (Str.ofString "enumerate") = none := by kernel_rfl
theorem w_close_table_enumerate (b) : Cn.glob (gOf d_close_table b) (Str.ofString "enumerate") = true := by kernel_rfl
theorem l_close_table_range : slotOf d_close_table.N (Str.ofString "range") = none := by kernel_rfl
theorem w_close_table_range (b) : Cn.glob (gOf d_close_table b) (Str.ofString "range") = true := by kernel_rfl
theorem l_close_table_one : slotOf d_close_table.N (Str.ofString "one") = some 8 := by kernel_rfl
theorem v_close_table_one (b) : Cn.vis (gOf d_close_table b) (Str.ofString "one") = true := by kernel_rfl
theorem o_close_table_one (b) : Cn.loc (gOf d_close_table b) (Str.ofString "one") = true := by kernel_rfl
theorem l_close_table_any : slotOf d_close_table.N (Str.ofString "any") = none := by kernel_rfl
theorem w_close_table_any (b) : Cn.glob (gOf d_close_table b) (Str.ofString "any") = true := by kernel_rfl
theorem l_close_table_tuple : slotOf d_close_table.N (Str.ofString "tuple") = none := by kernel_rfl
theorem w_close_table_tuple (b) : Cn.glob (gOf d_close_table b) (Str.ofString "tuple") = true := by kernel_rfl
theorem l_close_table_other : slotOf d_close_table.N (Str.ofString "other") = some 9 := by kernel_rfl
theorem v_close_table_other (b) : Cn.vis (gOf d_close_table b) (Str.ofString "other") = true := by kernel_rfl
theorem o_close_table_other (b) : Cn.loc (gOf d_close_table b) (Str.ofString "other") = true := by kernel_rfl
theorem l_close_table_way : slotOf d_close_table.N (Str.ofString "way") = some 10 := by kernel_rfl
theorem v_close_table_way (b) : Cn.vis (gOf d_close_table b) (Str.ofString "way") = true := by kernel_rfl
theorem o_close_table_way (b) : Cn.loc (gOf d_close_table b) (Str.ofString "way") = true := by kernel_rfl
theorem l_close_table_bound : slotOf d_close_table.N (Str.ofString "bound") = some 6 := by kernel_rfl
theorem l_close_table_add_bounds_marks : slotOf d_close_table.N (Str.ofString "add_bounds_marks") = none := by kernel_rfl
theorem w_close_table_add_bounds_marks (b) : Cn.glob (gOf d_close_table b) (Str.ofString "add_bounds_marks") = true := by kernel_rfl
theorem l_close_table_tight : slotOf d_close_table.N (Str.ofString "tight") = none := by kernel_rfl
theorem w_close_table_tight (b) : Cn.glob (gOf d_close_table b) (Str.ofString "tight") = true := by kernel_rfl
theorem l_close_table_column : slotOf d_close_table.N (Str.ofString "column") = some 5 := by kernel_rfl
theorem l_is_table_in_dot0 : slotOf d_is_table_in.N (Str.ofString ".0") = none := by kernel_rfl
theorem l_is_table_in_all : slotOf d_is_table_in.N (Str.ofString "all") = none := by kernel_rfl
theorem w_is_table_in_all (b) : Cn.glob (gOf d_is_table_in b) (Str.ofString "all") = true := by kernel_rfl
theorem l_is_table_in_size : slotOf d_is_table_in.N (Str.ofString "size") = some 0 := by kernel_rfl
theorem v_is_table_in_size (b) : Cn.vis (gOf d_is_table_in b) (Str.ofString "size") = true := by kernel_rfl
theorem o_is_table_in_size (b) : Cn.loc (gOf d_is_table_in b) (Str.ofString "size") = true := by kernel_rfl
theorem l_is_table_in_isinstance : slotOf d_is_table_in.N (Str.ofString "isinstance") = none := by kernel_rfl
theorem w_is_table_in_isinstance (b) : Cn.glob (gOf d_is_table_in b) (Str.ofString "isinstance") = true := by kernel_rfl
theorem l_is_table_in_value : slotOf d_is_table_in.N (Str.ofString "value") = some 1 := by kernel_rfl
theorem v_is_table_in_value (b) : Cn.vis (gOf d_is_table_in b) (Str.ofString "value") = true := by kernel_rfl
theorem o_is_table_in_value (b) : Cn.loc (gOf d_is_table_in b) (Str.ofString "value") = true := by kernel_rfl
theorem l_is_table_in_tuple : slotOf d_is_table_in.N (Str.ofString "tuple") = none := by kernel_rfl
theorem w_is_table_in_tuple (b) : Cn.glob (gOf d_is_table_in b) (Str.ofString "tuple") = true := by kernel_rfl
theorem l_is_table_in_len : slotOf d_is_table_in.N (Str.ofString "len") = none := by kernel_rfl
theorem w_is_table_in_len (b) : Cn.glob (gOf d_is_table_in b) (Str.ofString "len") = true := by kernel_rfl
theorem l_is_table_in_row : slotOf d_is_table_in.N (Str.ofString "row") = some 3 := by kernel_rfl
theorem l_is_table_in_is_bound_marks : slotOf d_is_table_in.N (Str.ofString "is_bound_marks") = none := by kernel_rfl
theorem l_is_table_in_one : slotOf d_is_table_in.N (Str.ofString "one") = some 2 := by kernel_rfl
theorem l_is_zone_of_dot0 : slotOf d_is_zone_of.N (Str.ofString ".0") = none := by kernel_rfl
theorem l_is_zone_of_value : slotOf d_is_zone_of.N (Str.ofString "value") = some 1 := by kernel_rfl
theorem v_is_zone_of_value (b) : Cn.vis (gOf d_is_zone_of b) (Str.ofString "value") = true := by kernel_rfl
theorem o_is_zone_of_value (b) : Cn.loc (gOf d_is_zone_of b) (Str.ofString "value") = true := by kernel_rfl
theorem l_is_zone_of_any : slotOf d_is_zone_of.N (Str.ofString "any") = none := by kernel_rfl
theorem w_is_zone_of_any (b) : Cn.glob (gOf d_is_zone_of b) (Str.ofString "any") = true := by kernel_rfl
theorem l_is_zone_of_close_table : slotOf d_is_zone_of.N (Str.ofString "close_table") = none := by kernel_rfl
theorem w_is_zone_of_close_table (b) : Cn.glob (gOf d_is_zone_of b) (Str.ofString "close_table") = true := by kernel_rfl
theorem l_is_zone_of_is_table_in : slotOf d_is_zone_of.N (Str.ofString "is_table_in") = none := by kernel_rfl
theorem w_is_zone_of_is_table_in (b) : Cn.glob (gOf d_is_zone_of b) (Str.ofString "is_table_in") = true := by kernel_rfl
theorem l_is_zone_of_size : slotOf d_is_zone_of.N (Str.ofString "size") = some 0 := by kernel_rfl
theorem v_is_zone_of_size (b) : Cn.vis (gOf d_is_zone_of b) (Str.ofString "size") = true := by kernel_rfl
theorem o_is_zone_of_size (b) : Cn.loc (gOf d_is_zone_of b) (Str.ofString "size") = true := by kernel_rfl
theorem l_is_zone_of_bound : slotOf d_is_zone_of.N (Str.ofString "bound") = some 2 := by kernel_rfl
theorem l_is_table_value_isinstance : slotOf d_is_table_value.N (Str.ofString "isinstance") = none := by kernel_rfl
theorem w_is_table_value_isinstance (b) : Cn.glob (gOf d_is_table_value b) (Str.ofString "isinstance") = true := by kernel_rfl
theorem l_is_table_value_value : slotOf d_is_table_value.N (Str.ofString "value") = some 0 := by kernel_rfl
theorem v_is_table_value_value (b) : Cn.vis (gOf d_is_table_value b) (Str.ofString "value") = true := by kernel_rfl
theorem o_is_table_value_value (b) : Cn.loc (gOf d_is_table_value b) (Str.ofString "value") = true := by kernel_rfl
theorem l_is_table_value_tuple : slotOf d_is_table_value.N (Str.ofString "tuple") = none := by kernel_rfl
theorem w_is_table_value_tuple (b) : Cn.glob (gOf d_is_table_value b) (Str.ofString "tuple") = true := by kernel_rfl
theorem l_is_table_value_MOST_THINGS : slotOf d_is_table_value.N (Str.ofString "MOST_THINGS") = none := by kernel_rfl
theorem w_is_table_value_MOST_THINGS (b) : Cn.glob (gOf d_is_table_value b) (Str.ofString "MOST_THINGS") = true := by kernel_rfl
theorem l_is_table_value_is_table_in : slotOf d_is_table_value.N (Str.ofString "is_table_in") = none := by kernel_rfl
theorem w_is_table_value_is_table_in (b) : Cn.glob (gOf d_is_table_value b) (Str.ofString "is_table_in") = true := by kernel_rfl
theorem l_is_table_value_len : slotOf d_is_table_value.N (Str.ofString "len") = none := by kernel_rfl
theorem w_is_table_value_len (b) : Cn.glob (gOf d_is_table_value b) (Str.ofString "len") = true := by kernel_rfl
theorem l_is_zone_value_isinstance : slotOf d_is_zone_value.N (Str.ofString "isinstance") = none := by kernel_rfl
theorem w_is_zone_value_isinstance (b) : Cn.glob (gOf d_is_zone_value b) (Str.ofString "isinstance") = true := by kernel_rfl
theorem l_is_zone_value_value : slotOf d_is_zone_value.N (Str.ofString "value") = some 0 := by kernel_rfl
theorem v_is_zone_value_value (b) : Cn.vis (gOf d_is_zone_value b) (Str.ofString "value") = true := by kernel_rfl
theorem o_is_zone_value_value (b) : Cn.loc (gOf d_is_zone_value b) (Str.ofString "value") = true := by kernel_rfl
theorem l_is_zone_value_tuple : slotOf d_is_zone_value.N (Str.ofString "tuple") = none := by kernel_rfl
theorem w_is_zone_value_tuple (b) : Cn.glob (gOf d_is_zone_value b) (Str.ofString "tuple") = true := by kernel_rfl
theorem l_is_zone_value_MOST_THINGS : slotOf d_is_zone_value.N (Str.ofString "MOST_THINGS") = none := by kernel_rfl
theorem w_is_zone_value_MOST_THINGS (b) : Cn.glob (gOf d_is_zone_value b) (Str.ofString "MOST_THINGS") = true := by kernel_rfl
theorem l_is_zone_value_is_zone_of : slotOf d_is_zone_value.N (Str.ofString "is_zone_of") = none := by kernel_rfl
theorem w_is_zone_value_is_zone_of (b) : Cn.glob (gOf d_is_zone_value b) (Str.ofString "is_zone_of") = true := by kernel_rfl
theorem l_is_zone_value_len : slotOf d_is_zone_value.N (Str.ofString "len") = none := by kernel_rfl
theorem w_is_zone_value_len (b) : Cn.glob (gOf d_is_zone_value b) (Str.ofString "len") = true := by kernel_rfl
theorem l_add_bounds_tables_add_bounds_marks : slotOf d_add_bounds_tables.N (Str.ofString "add_bounds_marks") = none := by kernel_rfl
theorem w_add_bounds_tables_add_bounds_marks (b) : Cn.glob (gOf d_add_bounds_tables b) (Str.ofString "add_bounds_marks") = true := by kernel_rfl
theorem l_add_bounds_tables_one : slotOf d_add_bounds_tables.N (Str.ofString "one") = some 0 := by kernel_rfl
theorem v_add_bounds_tables_one (b) : Cn.vis (gOf d_add_bounds_tables b) (Str.ofString "one") = true := by kernel_rfl
theorem o_add_bounds_tables_one (b) : Cn.loc (gOf d_add_bounds_tables b) (Str.ofString "one") = true := by kernel_rfl
theorem l_add_bounds_tables_other : slotOf d_add_bounds_tables.N (Str.ofString "other") = some 1 := by kernel_rfl
theorem v_add_bounds_tables_other (b) : Cn.vis (gOf d_add_bounds_tables b) (Str.ofString "other") = true := by kernel_rfl
theorem o_add_bounds_tables_other (b) : Cn.loc (gOf d_add_bounds_tables b) (Str.ofString "other") = true := by kernel_rfl
theorem l_add_bounds_tables_InvalidOperation : slotOf d_add_bounds_tables.N (Str.ofString "InvalidOperation") = none := by kernel_rfl
theorem w_add_bounds_tables_InvalidOperation (b) : Cn.glob (gOf d_add_bounds_tables b) (Str.ofString "InvalidOperation") = true := by kernel_rfl
theorem l_add_bounds_tables_is_bound_marks : slotOf d_add_bounds_tables.N (Str.ofString "is_bound_marks") = none := by kernel_rfl
theorem w_add_bounds_tables_is_bound_marks (b) : Cn.glob (gOf d_add_bounds_tables b) (Str.ofString "is_bound_marks") = true := by kernel_rfl
theorem l_is_bound_tables_is_bound_marks : slotOf d_is_bound_tables.N (Str.ofString "is_bound_marks") = none := by kernel_rfl
theorem w_is_bound_tables_is_bound_marks (b) : Cn.glob (gOf d_is_bound_tables b) (Str.ofString "is_bound_marks") = true := by kernel_rfl
theorem l_is_bound_tables_value : slotOf d_is_bound_tables.N (Str.ofString "value") = some 0 := by kernel_rfl
theorem v_is_bound_tables_value (b) : Cn.vis (gOf d_is_bound_tables b) (Str.ofString "value") = true := by kernel_rfl
theorem o_is_bound_tables_value (b) : Cn.loc (gOf d_is_bound_tables b) (Str.ofString "value") = true := by kernel_rfl
theorem l_is_table_is_table_value : slotOf d_is_table.N (Str.ofString "is_table_value") = none := by kernel_rfl
theorem w_is_table_is_table_value (b) : Cn.glob (gOf d_is_table b) (Str.ofString "is_table_value") = true := by kernel_rfl
theorem l_is_table_value : slotOf d_is_table.N (Str.ofString "value") = some 0 := by kernel_rfl
theorem v_is_table_value (b) : Cn.vis (gOf d_is_table b) (Str.ofString "value") = true := by kernel_rfl
theorem o_is_table_value (b) : Cn.loc (gOf d_is_table b) (Str.ofString "value") = true := by kernel_rfl
theorem l_is_zone_is_zone_value : slotOf d_is_zone.N (Str.ofString "is_zone_value") = none := by kernel_rfl
theorem w_is_zone_is_zone_value (b) : Cn.glob (gOf d_is_zone b) (Str.ofString "is_zone_value") = true := by kernel_rfl
theorem l_is_zone_value : slotOf d_is_zone.N (Str.ofString "value") = some 0 := by kernel_rfl
theorem v_is_zone_value (b) : Cn.vis (gOf d_is_zone b) (Str.ofString "value") = true := by kernel_rfl
theorem o_is_zone_value (b) : Cn.loc (gOf d_is_zone b) (Str.ofString "value") = true := by kernel_rfl
theorem l__law_dice_cell : slotOf d__law_dice.N (Str.ofString "cell") = some 2 := by kernel_rfl
theorem v__law_dice_cell (b) : Cn.vis (gOf d__law_dice b) (Str.ofString "cell") = true := by kernel_rfl
theorem o__law_dice_cell (b) : Cn.loc (gOf d__law_dice b) (Str.ofString "cell") = true := by kernel_rfl
theorem l__law_dice_great : slotOf d__law_dice.N (Str.ofString "great") = some 3 := by kernel_rfl
theorem v__law_dice_great (b) : Cn.vis (gOf d__law_dice b) (Str.ofString "great") = true := by kernel_rfl
theorem o__law_dice_great (b) : Cn.loc (gOf d__law_dice b) (Str.ofString "great") = true := by kernel_rfl
theorem l__law_dice_spot : slotOf d__law_dice.N (Str.ofString "spot") = some 1 := by kernel_rfl
theorem v__law_dice_spot (b) : Cn.vis (gOf d__law_dice b) (Str.ofString "spot") = true := by kernel_rfl
theorem o__law_dice_spot (b) : Cn.loc (gOf d__law_dice b) (Str.ofString "spot") = true := by kernel_rfl
theorem l__law_dice_int : slotOf d__law_dice.N (Str.ofString "int") = none := by kernel_rfl
theorem w__law_dice_int (b) : Cn.glob (gOf d__law_dice b) (Str.ofString "int") = true := by kernel_rfl
theorem l__law_dice_max : slotOf d__law_dice.N (Str.ofString "max") = none := by kernel_rfl
theorem w__law_dice_max (b) : Cn.glob (gOf d__law_dice b) (Str.ofString "max") = true := by kernel_rfl
theorem l__law_dice_len : slotOf d__law_dice.N (Str.ofString "len") = none := by kernel_rfl
theorem w__law_dice_len (b) : Cn.glob (gOf d__law_dice b) (Str.ofString "len") = true := by kernel_rfl
theorem l__law_dice_script : slotOf d__law_dice.N (Str.ofString "script") = some 0 := by kernel_rfl
theorem v__law_dice_script (b) : Cn.vis (gOf d__law_dice b) (Str.ofString "script") = true := by kernel_rfl
theorem o__law_dice_script (b) : Cn.loc (gOf d__law_dice b) (Str.ofString "script") = true := by kernel_rfl
theorem l__law_dice_abs : slotOf d__law_dice.N (Str.ofString "abs") = none := by kernel_rfl
theorem w__law_dice_abs (b) : Cn.glob (gOf d__law_dice b) (Str.ofString "abs") = true := by kernel_rfl
theorem l__law_roll_one : slotOf d__law_roll.N (Str.ofString "one") = some 3 := by kernel_rfl
theorem v__law_roll_one (b) : Cn.vis (gOf d__law_roll b) (Str.ofString "one") = true := by kernel_rfl
theorem o__law_roll_one (b) : Cn.loc (gOf d__law_roll b) (Str.ofString "one") = true := by kernel_rfl
theorem l__law_roll_two : slotOf d__law_roll.N (Str.ofString "two") = some 4 := by kernel_rfl
theorem v__law_roll_two (b) : Cn.vis (gOf d__law_roll b) (Str.ofString "two") = true := by kernel_rfl
theorem o__law_roll_two (b) : Cn.loc (gOf d__law_roll b) (Str.ofString "two") = true := by kernel_rfl
theorem l__law_roll_found : slotOf d__law_roll.N (Str.ofString "found") = some 2 := by kernel_rfl
theorem v__law_roll_found (b) : Cn.vis (gOf d__law_roll b) (Str.ofString "found") = true := by kernel_rfl
theorem o__law_roll_found (b) : Cn.loc (gOf d__law_roll b) (Str.ofString "found") = true := by kernel_rfl
theorem l__law_roll_dice : slotOf d__law_roll.N (Str.ofString "dice") = some 0 := by kernel_rfl
theorem v__law_roll_dice (b) : Cn.vis (gOf d__law_roll b) (Str.ofString "dice") = true := by kernel_rfl
theorem o__law_roll_dice (b) : Cn.loc (gOf d__law_roll b) (Str.ofString "dice") = true := by kernel_rfl
theorem l__law_roll_total : slotOf d__law_roll.N (Str.ofString "total") = some 1 := by kernel_rfl
theorem v__law_roll_total (b) : Cn.vis (gOf d__law_roll b) (Str.ofString "total") = true := by kernel_rfl
theorem o__law_roll_total (b) : Cn.loc (gOf d__law_roll b) (Str.ofString "total") = true := by kernel_rfl
theorem l__law_roll_int : slotOf d__law_roll.N (Str.ofString "int") = none := by kernel_rfl
theorem w__law_roll_int (b) : Cn.glob (gOf d__law_roll b) (Str.ofString "int") = true := by kernel_rfl
theorem l__law_pick_items : slotOf d__law_pick.N (Str.ofString "items") = some 1 := by kernel_rfl
theorem v__law_pick_items (b) : Cn.vis (gOf d__law_pick b) (Str.ofString "items") = true := by kernel_rfl
theorem o__law_pick_items (b) : Cn.loc (gOf d__law_pick b) (Str.ofString "items") = true := by kernel_rfl
theorem l__law_pick__law_roll : slotOf d__law_pick.N (Str.ofString "_law_roll") = none := by kernel_rfl
theorem w__law_pick__law_roll (b) : Cn.glob (gOf d__law_pick b) (Str.ofString "_law_roll") = true := by kernel_rfl
theorem l__law_pick_dice : slotOf d__law_pick.N (Str.ofString "dice") = some 0 := by kernel_rfl
theorem v__law_pick_dice (b) : Cn.vis (gOf d__law_pick b) (Str.ofString "dice") = true := by kernel_rfl
theorem o__law_pick_dice (b) : Cn.loc (gOf d__law_pick b) (Str.ofString "dice") = true := by kernel_rfl
theorem l__law_pick_len : slotOf d__law_pick.N (Str.ofString "len") = none := by kernel_rfl
theorem w__law_pick_len (b) : Cn.glob (gOf d__law_pick b) (Str.ofString "len") = true := by kernel_rfl
theorem l__law_common_one : slotOf d__law_common.N (Str.ofString "one") = some 0 := by kernel_rfl
theorem v__law_common_one (b) : Cn.vis (gOf d__law_common b) (Str.ofString "one") = true := by kernel_rfl
theorem o__law_common_one (b) : Cn.loc (gOf d__law_common b) (Str.ofString "one") = true := by kernel_rfl
theorem l__law_common_other : slotOf d__law_common.N (Str.ofString "other") = some 1 := by kernel_rfl
theorem v__law_common_other (b) : Cn.vis (gOf d__law_common b) (Str.ofString "other") = true := by kernel_rfl
theorem o__law_common_other (b) : Cn.loc (gOf d__law_common b) (Str.ofString "other") = true := by kernel_rfl
theorem l__law_common_abs : slotOf d__law_common.N (Str.ofString "abs") = none := by kernel_rfl
theorem w__law_common_abs (b) : Cn.glob (gOf d__law_common b) (Str.ofString "abs") = true := by kernel_rfl
theorem l__law_common_int : slotOf d__law_common.N (Str.ofString "int") = none := by kernel_rfl
theorem w__law_common_int (b) : Cn.glob (gOf d__law_common b) (Str.ofString "int") = true := by kernel_rfl
theorem l__law_share_common : slotOf d__law_share.N (Str.ofString "common") = some 2 := by kernel_rfl
theorem v__law_share_common (b) : Cn.vis (gOf d__law_share b) (Str.ofString "common") = true := by kernel_rfl
theorem o__law_share_common (b) : Cn.loc (gOf d__law_share b) (Str.ofString "common") = true := by kernel_rfl
theorem l__law_share__law_common : slotOf d__law_share.N (Str.ofString "_law_common") = none := by kernel_rfl
theorem w__law_share__law_common (b) : Cn.glob (gOf d__law_share b) (Str.ofString "_law_common") = true := by kernel_rfl
theorem l__law_share_top : slotOf d__law_share.N (Str.ofString "top") = some 0 := by kernel_rfl
theorem v__law_share_top (b) : Cn.vis (gOf d__law_share b) (Str.ofString "top") = true := by kernel_rfl
theorem o__law_share_top (b) : Cn.loc (gOf d__law_share b) (Str.ofString "top") = true := by kernel_rfl
theorem l__law_share_bottom : slotOf d__law_share.N (Str.ofString "bottom") = some 1 := by kernel_rfl
theorem v__law_share_bottom (b) : Cn.vis (gOf d__law_share b) (Str.ofString "bottom") = true := by kernel_rfl
theorem o__law_share_bottom (b) : Cn.loc (gOf d__law_share b) (Str.ofString "bottom") = true := by kernel_rfl
theorem l__law_share_int : slotOf d__law_share.N (Str.ofString "int") = none := by kernel_rfl
theorem w__law_share_int (b) : Cn.glob (gOf d__law_share b) (Str.ofString "int") = true := by kernel_rfl
theorem l__law_plus__law_share : slotOf d__law_plus.N (Str.ofString "_law_share") = none := by kernel_rfl
theorem w__law_plus__law_share (b) : Cn.glob (gOf d__law_plus b) (Str.ofString "_law_share") = true := by kernel_rfl
theorem l__law_plus_one : slotOf d__law_plus.N (Str.ofString "one") = some 0 := by kernel_rfl
theorem v__law_plus_one (b) : Cn.vis (gOf d__law_plus b) (Str.ofString "one") = true := by kernel_rfl
theorem o__law_plus_one (b) : Cn.loc (gOf d__law_plus b) (Str.ofString "one") = true := by kernel_rfl
theorem l__law_plus_other : slotOf d__law_plus.N (Str.ofString "other") = some 1 := by kernel_rfl
theorem v__law_plus_other (b) : Cn.vis (gOf d__law_plus b) (Str.ofString "other") = true := by kernel_rfl
theorem o__law_plus_other (b) : Cn.loc (gOf d__law_plus b) (Str.ofString "other") = true := by kernel_rfl
theorem l__law_is_whole_isinstance : slotOf d__law_is_whole.N (Str.ofString "isinstance") = none := by kernel_rfl
theorem w__law_is_whole_isinstance (b) : Cn.glob (gOf d__law_is_whole b) (Str.ofString "isinstance") = true := by kernel_rfl
theorem l__law_is_whole_value : slotOf d__law_is_whole.N (Str.ofString "value") = some 0 := by kernel_rfl
theorem v__law_is_whole_value (b) : Cn.vis (gOf d__law_is_whole b) (Str.ofString "value") = true := by kernel_rfl
theorem o__law_is_whole_value (b) : Cn.loc (gOf d__law_is_whole b) (Str.ofString "value") = true := by kernel_rfl
theorem l__law_is_whole_int : slotOf d__law_is_whole.N (Str.ofString "int") = none := by kernel_rfl
theorem w__law_is_whole_int (b) : Cn.glob (gOf d__law_is_whole b) (Str.ofString "int") = true := by kernel_rfl
theorem l__law_is_whole_bool : slotOf d__law_is_whole.N (Str.ofString "bool") = none := by kernel_rfl
theorem w__law_is_whole_bool (b) : Cn.glob (gOf d__law_is_whole b) (Str.ofString "bool") = true := by kernel_rfl
theorem l__law_sum_one : slotOf d__law_sum.N (Str.ofString "one") = some 0 := by kernel_rfl
theorem v__law_sum_one (b) : Cn.vis (gOf d__law_sum b) (Str.ofString "one") = true := by kernel_rfl
theorem o__law_sum_one (b) : Cn.loc (gOf d__law_sum b) (Str.ofString "one") = true := by kernel_rfl
theorem l__law_sum_other : slotOf d__law_sum.N (Str.ofString "other") = some 1 := by kernel_rfl
theorem v__law_sum_other (b) : Cn.vis (gOf d__law_sum b) (Str.ofString "other") = true := by kernel_rfl
theorem o__law_sum_other (b) : Cn.loc (gOf d__law_sum b) (Str.ofString "other") = true := by kernel_rfl
theorem l__law_sum_int : slotOf d__law_sum.N (Str.ofString "int") = none := by kernel_rfl
theorem w__law_sum_int (b) : Cn.glob (gOf d__law_sum b) (Str.ofString "int") = true := by kernel_rfl
theorem l__law_tight_min : slotOf d__law_tight.N (Str.ofString "min") = none := by kernel_rfl
theorem w__law_tight_min (b) : Cn.glob (gOf d__law_tight b) (Str.ofString "min") = true := by kernel_rfl
theorem l__law_tight_one : slotOf d__law_tight.N (Str.ofString "one") = some 0 := by kernel_rfl
theorem v__law_tight_one (b) : Cn.vis (gOf d__law_tight b) (Str.ofString "one") = true := by kernel_rfl
theorem o__law_tight_one (b) : Cn.loc (gOf d__law_tight b) (Str.ofString "one") = true := by kernel_rfl
theorem l__law_tight_other : slotOf d__law_tight.N (Str.ofString "other") = some 1 := by kernel_rfl
theorem v__law_tight_other (b) : Cn.vis (gOf d__law_tight b) (Str.ofString "other") = true := by kernel_rfl
theorem o__law_tight_other (b) : Cn.loc (gOf d__law_tight b) (Str.ofString "other") = true := by kernel_rfl
theorem l__law_closed_dot0 : slotOf d__law_closed.N (Str.ofString ".0") = none := by kernel_rfl
theorem l__law_closed_at : slotOf d__law_closed.N (Str.ofString "at") = some 4 := by kernel_rfl
theorem v__law_closed_at (b) : Cn.vis (gOf d__law_closed b) (Str.ofString "at") = true := by kernel_rfl
theorem o__law_closed_at (b) : Cn.loc (gOf d__law_closed b) (Str.ofString "at") = true := by kernel_rfl
theorem l__law_closed_middle : slotOf d__law_closed.N (Str.ofString "middle") = some 5 := by kernel_rfl
theorem v__law_closed_middle (b) : Cn.vis (gOf d__law_closed b) (Str.ofString "middle") = true := by kernel_rfl
theorem o__law_closed_middle (b) : Cn.loc (gOf d__law_closed b) (Str.ofString "middle") = true := by kernel_rfl
theorem l__law_closed_size : slotOf d__law_closed.N (Str.ofString "size") = some 1 := by kernel_rfl
theorem v__law_closed_size (b) : Cn.vis (gOf d__law_closed b) (Str.ofString "size") = true := by kernel_rfl
theorem o__law_closed_size (b) : Cn.loc (gOf d__law_closed b) (Str.ofString "size") = true := by kernel_rfl
theorem l__law_closed_rows : slotOf d__law_closed.N (Str.ofString "rows") = some 2 := by kernel_rfl
theorem v__law_closed_rows (b) : Cn.vis (gOf d__law_closed b) (Str.ofString "rows") = true := by kernel_rfl
theorem o__law_closed_rows (b) : Cn.loc (gOf d__law_closed b) (Str.ofString "rows") = true := by kernel_rfl
theorem l__law_closed_range : slotOf d__law_closed.N (Str.ofString "range") = none := by kernel_rfl
theorem w__law_closed_range (b) : Cn.glob (gOf d__law_closed b) (Str.ofString "range") = true := by kernel_rfl
theorem l__law_closed_one : slotOf d__law_closed.N (Str.ofString "one") = some 6 := by kernel_rfl
theorem v__law_closed_one (b) : Cn.vis (gOf d__law_closed b) (Str.ofString "one") = true := by kernel_rfl
theorem o__law_closed_one (b) : Cn.loc (gOf d__law_closed b) (Str.ofString "one") = true := by kernel_rfl
theorem l__law_closed_tuple : slotOf d__law_closed.N (Str.ofString "tuple") = none := by kernel_rfl
theorem w__law_closed_tuple (b) : Cn.glob (gOf d__law_closed b) (Str.ofString "tuple") = true := by kernel_rfl
theorem l__law_closed_len : slotOf d__law_closed.N (Str.ofString "len") = none := by kernel_rfl
theorem w__law_closed_len (b) : Cn.glob (gOf d__law_closed b) (Str.ofString "len") = true := by kernel_rfl
theorem l__law_closed_table : slotOf d__law_closed.N (Str.ofString "table") = some 0 := by kernel_rfl
theorem v__law_closed_table (b) : Cn.vis (gOf d__law_closed b) (Str.ofString "table") = true := by kernel_rfl
theorem o__law_closed_table (b) : Cn.loc (gOf d__law_closed b) (Str.ofString "table") = true := by kernel_rfl
theorem l__law_closed_other : slotOf d__law_closed.N (Str.ofString "other") = some 7 := by kernel_rfl
theorem v__law_closed_other (b) : Cn.vis (gOf d__law_closed b) (Str.ofString "other") = true := by kernel_rfl
theorem o__law_closed_other (b) : Cn.loc (gOf d__law_closed b) (Str.ofString "other") = true := by kernel_rfl
theorem l__law_closed_list : slotOf d__law_closed.N (Str.ofString "list") = none := by kernel_rfl
theorem l__law_closed_row : slotOf d__law_closed.N (Str.ofString "row") = some 3 := by kernel_rfl
theorem l__law_closed__law_tight : slotOf d__law_closed.N (Str.ofString "_law_tight") = none := by kernel_rfl
theorem w__law_closed__law_tight (b) : Cn.glob (gOf d__law_closed b) (Str.ofString "_law_tight") = true := by kernel_rfl
theorem l__law_closed__law_sum : slotOf d__law_closed.N (Str.ofString "_law_sum") = none := by kernel_rfl
theorem w__law_closed__law_sum (b) : Cn.glob (gOf d__law_closed b) (Str.ofString "_law_sum") = true := by kernel_rfl
theorem l__law_holds_bound : slotOf d__law_holds.N (Str.ofString "bound") = some 1 := by kernel_rfl
theorem v__law_holds_bound (b) : Cn.vis (gOf d__law_holds b) (Str.ofString "bound") = true := by kernel_rfl
theorem o__law_holds_bound (b) : Cn.loc (gOf d__law_holds b) (Str.ofString "bound") = true := by kernel_rfl
theorem l__law_holds_difference : slotOf d__law_holds.N (Str.ofString "difference") = some 0 := by kernel_rfl
theorem v__law_holds_difference (b) : Cn.vis (gOf d__law_holds b) (Str.ofString "difference") = true := by kernel_rfl
theorem o__law_holds_difference (b) : Cn.loc (gOf d__law_holds b) (Str.ofString "difference") = true := by kernel_rfl
theorem l__law_is_table_dot0 : slotOf d__law_is_table.N (Str.ofString ".0") = none := by kernel_rfl
theorem l__law_is_table_row : slotOf d__law_is_table.N (Str.ofString "row") = some 1 := by kernel_rfl
theorem v__law_is_table_row (b) : Cn.vis (gOf d__law_is_table b) (Str.ofString "row") = true := by kernel_rfl
theorem o__law_is_table_row (b) : Cn.loc (gOf d__law_is_table b) (Str.ofString "row") = true := by kernel_rfl
theorem l__law_is_table_value : slotOf d__law_is_table.N (Str.ofString "value") = some 0 := by kernel_rfl
theorem v__law_is_table_value (b) : Cn.vis (gOf d__law_is_table b) (Str.ofString "value") = true := by kernel_rfl
theorem o__law_is_table_value (b) : Cn.loc (gOf d__law_is_table b) (Str.ofString "value") = true := by kernel_rfl
theorem l__law_is_table_isinstance : slotOf d__law_is_table.N (Str.ofString "isinstance") = none := by kernel_rfl
theorem w__law_is_table_isinstance (b) : Cn.glob (gOf d__law_is_table b) (Str.ofString "isinstance") = true := by kernel_rfl
theorem l__law_is_table_tuple : slotOf d__law_is_table.N (Str.ofString "tuple") = none := by kernel_rfl
theorem w__law_is_table_tuple (b) : Cn.glob (gOf d__law_is_table b) (Str.ofString "tuple") = true := by kernel_rfl
theorem l__law_is_table_one : slotOf d__law_is_table.N (Str.ofString "one") = some 2 := by kernel_rfl
theorem l__law_is_table_len : slotOf d__law_is_table.N (Str.ofString "len") = none := by kernel_rfl
theorem w__law_is_table_len (b) : Cn.glob (gOf d__law_is_table b) (Str.ofString "len") = true := by kernel_rfl
theorem l__law_is_table__law_is_whole : slotOf d__law_is_table.N (Str.ofString "_law_is_whole") = none := by kernel_rfl
theorem l__law_is_zone__law_is_table : slotOf d__law_is_zone.N (Str.ofString "_law_is_table") = none := by kernel_rfl
theorem w__law_is_zone__law_is_table (b) : Cn.glob (gOf d__law_is_zone b) (Str.ofString "_law_is_table") = true := by kernel_rfl
theorem l__law_is_zone_value : slotOf d__law_is_zone.N (Str.ofString "value") = some 0 := by kernel_rfl
theorem v__law_is_zone_value (b) : Cn.vis (gOf d__law_is_zone b) (Str.ofString "value") = true := by kernel_rfl
theorem o__law_is_zone_value (b) : Cn.loc (gOf d__law_is_zone b) (Str.ofString "value") = true := by kernel_rfl
theorem l__law_is_zone__law_closed : slotOf d__law_is_zone.N (Str.ofString "_law_closed") = none := by kernel_rfl
theorem w__law_is_zone__law_closed (b) : Cn.glob (gOf d__law_is_zone b) (Str.ofString "_law_closed") = true := by kernel_rfl
theorem l__law_drawn_table_row : slotOf d__law_drawn_table.N (Str.ofString "row") = some 4 := by kernel_rfl
theorem v__law_drawn_table_row (b) : Cn.vis (gOf d__law_drawn_table b) (Str.ofString "row") = true := by kernel_rfl
theorem o__law_drawn_table_row (b) : Cn.loc (gOf d__law_drawn_table b) (Str.ofString "row") = true := by kernel_rfl
theorem l__law_drawn_table_size : slotOf d__law_drawn_table.N (Str.ofString "size") = some 2 := by kernel_rfl
theorem v__law_drawn_table_size (b) : Cn.vis (gOf d__law_drawn_table b) (Str.ofString "size") = true := by kernel_rfl
theorem o__law_drawn_table_size (b) : Cn.loc (gOf d__law_drawn_table b) (Str.ofString "size") = true := by kernel_rfl
theorem l__law_drawn_table_found : slotOf d__law_drawn_table.N (Str.ofString "found") = some 3 := by kernel_rfl
theorem v__law_drawn_table_found (b) : Cn.vis (gOf d__law_drawn_table b) (Str.ofString "found") = true := by kernel_rfl
theorem o__law_drawn_table_found (b) : Cn.loc (gOf d__law_drawn_table b) (Str.ofString "found") = true := by kernel_rfl
theorem l__law_drawn_table_range : slotOf d__law_drawn_table.N (Str.ofString "range") = none := by kernel_rfl
theorem w__law_drawn_table_range (b) : Cn.glob (gOf d__law_drawn_table b) (Str.ofString "range") = true := by kernel_rfl
theorem l__law_drawn_table_some : slotOf d__law_drawn_table.N (Str.ofString "some") = some 5 := by kernel_rfl
theorem v__law_drawn_table_some (b) : Cn.vis (gOf d__law_drawn_table b) (Str.ofString "some") = true := by kernel_rfl
theorem o__law_drawn_table_some (b) : Cn.loc (gOf d__law_drawn_table b) (Str.ofString "some") = true := by kernel_rfl
theorem l__law_drawn_table_column : slotOf d__law_drawn_table.N (Str.ofString "column") = some 6 := by kernel_rfl
theorem v__law_drawn_table_column (b) : Cn.vis (gOf d__law_drawn_table b) (Str.ofString "column") = true := by kernel_rfl
theorem o__law_drawn_table_column (b) : Cn.loc (gOf d__law_drawn_table b) (Str.ofString "column") = true := by kernel_rfl
theorem l__law_drawn_table_tuple : slotOf d__law_drawn_table.N (Str.ofString "tuple") = none := by kernel_rfl
theorem w__law_drawn_table_tuple (b) : Cn.glob (gOf d__law_drawn_table b) (Str.ofString "tuple") = true := by kernel_rfl
theorem l__law_drawn_table_way : slotOf d__law_drawn_table.N (Str.ofString "way") = some 7 := by kernel_rfl
theorem v__law_drawn_table_way (b) : Cn.vis (gOf d__law_drawn_table b) (Str.ofString "way") = true := by kernel_rfl
theorem o__law_drawn_table_way (b) : Cn.loc (gOf d__law_drawn_table b) (Str.ofString "way") = true := by kernel_rfl
theorem l__law_drawn_table_bound : slotOf d__law_drawn_table.N (Str.ofString "bound") = some 8 := by kernel_rfl
theorem v__law_drawn_table_bound (b) : Cn.vis (gOf d__law_drawn_table b) (Str.ofString "bound") = true := by kernel_rfl
theorem o__law_drawn_table_bound (b) : Cn.loc (gOf d__law_drawn_table b) (Str.ofString "bound") = true := by kernel_rfl
theorem l__law_drawn_table__law_roll : slotOf d__law_drawn_table.N (Str.ofString "_law_roll") = none := by kernel_rfl
theorem w__law_drawn_table__law_roll (b) : Cn.glob (gOf d__law_drawn_table b) (Str.ofString "_law_roll") = true := by kernel_rfl
theorem l__law_drawn_table_dice : slotOf d__law_drawn_table.N (Str.ofString "dice") = some 0 := by kernel_rfl
theorem v__law_drawn_table_dice (b) : Cn.vis (gOf d__law_drawn_table b) (Str.ofString "dice") = true := by kernel_rfl
theorem o__law_drawn_table_dice (b) : Cn.loc (gOf d__law_drawn_table b) (Str.ofString "dice") = true := by kernel_rfl
theorem l__law_drawn_table_most : slotOf d__law_drawn_table.N (Str.ofString "most") = some 1 := by kernel_rfl
theorem v__law_drawn_table_most (b) : Cn.vis (gOf d__law_drawn_table b) (Str.ofString "most") = true := by kernel_rfl
theorem o__law_drawn_table_most (b) : Cn.loc (gOf d__law_drawn_table b) (Str.ofString "most") = true := by kernel_rfl
theorem l__law_drawn_zone_dot0 : slotOf d__law_drawn_zone.N (Str.ofString ".0") = none := by kernel_rfl
theorem l__law_drawn_zone_turn : slotOf d__law_drawn_zone.N (Str.ofString "turn") = some 2 := by kernel_rfl
theorem v__law_drawn_zone_turn (b) : Cn.vis (gOf d__law_drawn_zone b) (Str.ofString "turn") = true := by kernel_rfl
theorem o__law_drawn_zone_turn (b) : Cn.loc (gOf d__law_drawn_zone b) (Str.ofString "turn") = true := by kernel_rfl
theorem l__law_drawn_zone_range : slotOf d__law_drawn_zone.N (Str.ofString "range") = none := by kernel_rfl
theorem w__law_drawn_zone_range (b) : Cn.glob (gOf d__law_drawn_zone b) (Str.ofString "range") = true := by kernel_rfl
theorem l__law_drawn_zone_rows : slotOf d__law_drawn_zone.N (Str.ofString "rows") = some 3 := by kernel_rfl
theorem v__law_drawn_zone_rows (b) : Cn.vis (gOf d__law_drawn_zone b) (Str.ofString "rows") = true := by kernel_rfl
theorem o__law_drawn_zone_rows (b) : Cn.loc (gOf d__law_drawn_zone b) (Str.ofString "rows") = true := by kernel_rfl
theorem l__law_drawn_zone_row : slotOf d__law_drawn_zone.N (Str.ofString "row") = some 4 := by kernel_rfl
theorem v__law_drawn_zone_row (b) : Cn.vis (gOf d__law_drawn_zone b) (Str.ofString "row") = true := by kernel_rfl
theorem o__law_drawn_zone_row (b) : Cn.loc (gOf d__law_drawn_zone b) (Str.ofString "row") = true := by kernel_rfl
theorem l__law_drawn_zone_found : slotOf d__law_drawn_zone.N (Str.ofString "found") = some 8 := by kernel_rfl
theorem v__law_drawn_zone_found (b) : Cn.vis (gOf d__law_drawn_zone b) (Str.ofString "found") = true := by kernel_rfl
theorem o__law_drawn_zone_found (b) : Cn.loc (gOf d__law_drawn_zone b) (Str.ofString "found") = true := by kernel_rfl
theorem l__law_drawn_zone__law_closed : slotOf d__law_drawn_zone.N (Str.ofString "_law_closed") = none := by kernel_rfl
theorem w__law_drawn_zone__law_closed (b) : Cn.glob (gOf d__law_drawn_zone b) (Str.ofString "_law_closed") = true := by kernel_rfl
theorem l__law_drawn_zone_size : slotOf d__law_drawn_zone.N (Str.ofString "size") = some 1 := by kernel_rfl
theorem v__law_drawn_zone_size (b) : Cn.vis (gOf d__law_drawn_zone b) (Str.ofString "size") = true := by kernel_rfl
theorem o__law_drawn_zone_size (b) : Cn.loc (gOf d__law_drawn_zone b) (Str.ofString "size") = true := by kernel_rfl
theorem l__law_drawn_zone_some : slotOf d__law_drawn_zone.N (Str.ofString "some") = some 5 := by kernel_rfl
theorem v__law_drawn_zone_some (b) : Cn.vis (gOf d__law_drawn_zone b) (Str.ofString "some") = true := by kernel_rfl
theorem o__law_drawn_zone_some (b) : Cn.loc (gOf d__law_drawn_zone b) (Str.ofString "some") = true := by kernel_rfl
theorem l__law_drawn_zone_tuple : slotOf d__law_drawn_zone.N (Str.ofString "tuple") = none := by kernel_rfl
theorem w__law_drawn_zone_tuple (b) : Cn.glob (gOf d__law_drawn_zone b) (Str.ofString "tuple") = true := by kernel_rfl
theorem l__law_drawn_zone_column : slotOf d__law_drawn_zone.N (Str.ofString "column") = some 6 := by kernel_rfl
theorem l__law_drawn_zone__law_roll : slotOf d__law_drawn_zone.N (Str.ofString "_law_roll") = none := by kernel_rfl
theorem l__law_drawn_zone_dice : slotOf d__law_drawn_zone.N (Str.ofString "dice") = some 0 := by kernel_rfl
theorem v__law_drawn_zone_dice (b) : Cn.vis (gOf d__law_drawn_zone b) (Str.ofString "dice") = true := by kernel_rfl
theorem o__law_drawn_zone_dice (b) : Cn.loc (gOf d__law_drawn_zone b) (Str.ofString "dice") = true := by kernel_rfl
theorem l__law_drawn_zone_bound : slotOf d__law_drawn_zone.N (Str.ofString "bound") = some 7 := by kernel_rfl
theorem l__law_drawn_zone_enumerate : slotOf d__law_drawn_zone.N (Str.ofString "enumerate") = none := by kernel_rfl
theorem w__law_drawn_zone_enumerate (b) : Cn.glob (gOf d__law_drawn_zone b) (Str.ofString "enumerate") = true := by kernel_rfl
theorem l__law_drawn_bound__law_pick : slotOf d__law_drawn_bound.N (Str.ofString "_law_pick") = none := by kernel_rfl
theorem w__law_drawn_bound__law_pick (b) : Cn.glob (gOf d__law_drawn_bound b) (Str.ofString "_law_pick") = true := by kernel_rfl
theorem l__law_drawn_bound_dice : slotOf d__law_drawn_bound.N (Str.ofString "dice") = some 0 := by kernel_rfl
theorem v__law_drawn_bound_dice (b) : Cn.vis (gOf d__law_drawn_bound b) (Str.ofString "dice") = true := by kernel_rfl
theorem o__law_drawn_bound_dice (b) : Cn.loc (gOf d__law_drawn_bound b) (Str.ofString "dice") = true := by kernel_rfl
theorem l__law_drawn_bound__law_roll : slotOf d__law_drawn_bound.N (Str.ofString "_law_roll") = none := by kernel_rfl
theorem w__law_drawn_bound__law_roll (b) : Cn.glob (gOf d__law_drawn_bound b) (Str.ofString "_law_roll") = true := by kernel_rfl
theorem l__law_holds_sum_told : slotOf d__law_holds_sum.N (Str.ofString "told") = some 3 := by kernel_rfl
theorem v__law_holds_sum_told (b) : Cn.vis (gOf d__law_holds_sum b) (Str.ofString "told") = true := by kernel_rfl
theorem o__law_holds_sum_told (b) : Cn.loc (gOf d__law_holds_sum b) (Str.ofString "told") = true := by kernel_rfl
theorem l__law_holds_sum_turn : slotOf d__law_holds_sum.N (Str.ofString "turn") = some 4 := by kernel_rfl
theorem v__law_holds_sum_turn (b) : Cn.vis (gOf d__law_holds_sum b) (Str.ofString "turn") = true := by kernel_rfl
theorem o__law_holds_sum_turn (b) : Cn.loc (gOf d__law_holds_sum b) (Str.ofString "turn") = true := by kernel_rfl
theorem l__law_holds_sum_add_bounds_tables : slotOf d__law_holds_sum.N (Str.ofString "add_bounds_tables") = none := by kernel_rfl
theorem w__law_holds_sum_add_bounds_tables (b) : Cn.glob (gOf d__law_holds_sum b) (Str.ofString "add_bounds_tables") = true := by kernel_rfl
theorem l__law_holds_sum_one : slotOf d__law_holds_sum.N (Str.ofString "one") = some 1 := by kernel_rfl
theorem v__law_holds_sum_one (b) : Cn.vis (gOf d__law_holds_sum b) (Str.ofString "one") = true := by kernel_rfl
theorem o__law_holds_sum_one (b) : Cn.loc (gOf d__law_holds_sum b) (Str.ofString "one") = true := by kernel_rfl
theorem l__law_holds_sum_other : slotOf d__law_holds_sum.N (Str.ofString "other") = some 2 := by kernel_rfl
theorem v__law_holds_sum_other (b) : Cn.vis (gOf d__law_holds_sum b) (Str.ofString "other") = true := by kernel_rfl
theorem o__law_holds_sum_other (b) : Cn.loc (gOf d__law_holds_sum b) (Str.ofString "other") = true := by kernel_rfl
theorem l__law_holds_sum_range : slotOf d__law_holds_sum.N (Str.ofString "range") = none := by kernel_rfl
theorem w__law_holds_sum_range (b) : Cn.glob (gOf d__law_holds_sum b) (Str.ofString "range") = true := by kernel_rfl
theorem l__law_holds_sum_first : slotOf d__law_holds_sum.N (Str.ofString "first") = some 5 := by kernel_rfl
theorem v__law_holds_sum_first (b) : Cn.vis (gOf d__law_holds_sum b) (Str.ofString "first") = true := by kernel_rfl
theorem o__law_holds_sum_first (b) : Cn.loc (gOf d__law_holds_sum b) (Str.ofString "first") = true := by kernel_rfl
theorem l__law_holds_sum_last : slotOf d__law_holds_sum.N (Str.ofString "last") = some 6 := by kernel_rfl
theorem v__law_holds_sum_last (b) : Cn.vis (gOf d__law_holds_sum b) (Str.ofString "last") = true := by kernel_rfl
theorem o__law_holds_sum_last (b) : Cn.loc (gOf d__law_holds_sum b) (Str.ofString "last") = true := by kernel_rfl
theorem l__law_holds_sum__law_share : slotOf d__law_holds_sum.N (Str.ofString "_law_share") = none := by kernel_rfl
theorem w__law_holds_sum__law_share (b) : Cn.glob (gOf d__law_holds_sum b) (Str.ofString "_law_share") = true := by kernel_rfl
theorem l__law_holds_sum__law_sum : slotOf d__law_holds_sum.N (Str.ofString "_law_sum") = none := by kernel_rfl
theorem w__law_holds_sum__law_sum (b) : Cn.glob (gOf d__law_holds_sum b) (Str.ofString "_law_sum") = true := by kernel_rfl
theorem l__law_holds_sum__law_pick : slotOf d__law_holds_sum.N (Str.ofString "_law_pick") = none := by kernel_rfl
theorem w__law_holds_sum__law_pick (b) : Cn.glob (gOf d__law_holds_sum b) (Str.ofString "_law_pick") = true := by kernel_rfl
theorem l__law_holds_sum_dice : slotOf d__law_holds_sum.N (Str.ofString "dice") = some 0 := by kernel_rfl
theorem v__law_holds_sum_dice (b) : Cn.vis (gOf d__law_holds_sum b) (Str.ofString "dice") = true := by kernel_rfl
theorem o__law_holds_sum_dice (b) : Cn.loc (gOf d__law_holds_sum b) (Str.ofString "dice") = true := by kernel_rfl
theorem l__law_holds_sum__law_holds : slotOf d__law_holds_sum.N (Str.ofString "_law_holds") = none := by kernel_rfl
theorem w__law_holds_sum__law_holds (b) : Cn.glob (gOf d__law_holds_sum b) (Str.ofString "_law_holds") = true := by kernel_rfl
theorem l__law_holds_sum__law_roll : slotOf d__law_holds_sum.N (Str.ofString "_law_roll") = none := by kernel_rfl
theorem w__law_holds_sum__law_roll (b) : Cn.glob (gOf d__law_holds_sum b) (Str.ofString "_law_roll") = true := by kernel_rfl
theorem l__law_holds_sum__law_plus : slotOf d__law_holds_sum.N (Str.ofString "_law_plus") = none := by kernel_rfl
theorem w__law_holds_sum__law_plus (b) : Cn.glob (gOf d__law_holds_sum b) (Str.ofString "_law_plus") = true := by kernel_rfl
theorem l__law_right_near : slotOf d__law_right.N (Str.ofString "near") = some 4 := by kernel_rfl
theorem v__law_right_near (b) : Cn.vis (gOf d__law_right b) (Str.ofString "near") = true := by kernel_rfl
theorem o__law_right_near (b) : Cn.loc (gOf d__law_right b) (Str.ofString "near") = true := by kernel_rfl
theorem l__law_right_value : slotOf d__law_right.N (Str.ofString "value") = some 5 := by kernel_rfl
theorem v__law_right_value (b) : Cn.vis (gOf d__law_right b) (Str.ofString "value") = true := by kernel_rfl
theorem o__law_right_value (b) : Cn.loc (gOf d__law_right b) (Str.ofString "value") = true := by kernel_rfl
theorem l__law_right_table : slotOf d__law_right.N (Str.ofString "table") = some 7 := by kernel_rfl
theorem v__law_right_table (b) : Cn.vis (gOf d__law_right b) (Str.ofString "table") = true := by kernel_rfl
theorem o__law_right_table (b) : Cn.loc (gOf d__law_right b) (Str.ofString "table") = true := by kernel_rfl
theorem l__law_right_zone : slotOf d__law_right.N (Str.ofString "zone") = some 8 := by kernel_rfl
theorem v__law_right_zone (b) : Cn.vis (gOf d__law_right b) (Str.ofString "zone") = true := by kernel_rfl
theorem o__law_right_zone (b) : Cn.loc (gOf d__law_right b) (Str.ofString "zone") = true := by kernel_rfl
theorem l__law_right_some : slotOf d__law_right.N (Str.ofString "some") = some 9 := by kernel_rfl
theorem v__law_right_some (b) : Cn.vis (gOf d__law_right b) (Str.ofString "some") = true := by kernel_rfl
theorem o__law_right_some (b) : Cn.loc (gOf d__law_right b) (Str.ofString "some") = true := by kernel_rfl
theorem l__law_right_one : slotOf d__law_right.N (Str.ofString "one") = some 1 := by kernel_rfl
theorem v__law_right_one (b) : Cn.vis (gOf d__law_right b) (Str.ofString "one") = true := by kernel_rfl
theorem o__law_right_one (b) : Cn.loc (gOf d__law_right b) (Str.ofString "one") = true := by kernel_rfl
theorem l__law_right_other : slotOf d__law_right.N (Str.ofString "other") = some 2 := by kernel_rfl
theorem v__law_right_other (b) : Cn.vis (gOf d__law_right b) (Str.ofString "other") = true := by kernel_rfl
theorem o__law_right_other (b) : Cn.loc (gOf d__law_right b) (Str.ofString "other") = true := by kernel_rfl
theorem l__law_right_third : slotOf d__law_right.N (Str.ofString "third") = some 3 := by kernel_rfl
theorem v__law_right_third (b) : Cn.vis (gOf d__law_right b) (Str.ofString "third") = true := by kernel_rfl
theorem o__law_right_third (b) : Cn.loc (gOf d__law_right b) (Str.ofString "third") = true := by kernel_rfl
theorem l__law_right_due : slotOf d__law_right.N (Str.ofString "due") = some 6 := by kernel_rfl
theorem v__law_right_due (b) : Cn.vis (gOf d__law_right b) (Str.ofString "due") = true := by kernel_rfl
theorem o__law_right_due (b) : Cn.loc (gOf d__law_right b) (Str.ofString "due") = true := by kernel_rfl
theorem l__law_right__law_drawn_table : slotOf d__law_right.N (Str.ofString "_law_drawn_table") = none := by kernel_rfl
theorem w__law_right__law_drawn_table (b) : Cn.glob (gOf d__law_right b) (Str.ofString "_law_drawn_table") = true := by kernel_rfl
theorem l__law_right_dice : slotOf d__law_right.N (Str.ofString "dice") = some 0 := by kernel_rfl
theorem v__law_right_dice (b) : Cn.vis (gOf d__law_right b) (Str.ofString "dice") = true := by kernel_rfl
theorem o__law_right_dice (b) : Cn.loc (gOf d__law_right b) (Str.ofString "dice") = true := by kernel_rfl
theorem l__law_right__law_drawn_zone : slotOf d__law_right.N (Str.ofString "_law_drawn_zone") = none := by kernel_rfl
theorem w__law_right__law_drawn_zone (b) : Cn.glob (gOf d__law_right b) (Str.ofString "_law_drawn_zone") = true := by kernel_rfl
theorem l__law_right_values : slotOf d__law_right.N (Str.ofString "values") = some 10 := by kernel_rfl
theorem v__law_right_values (b) : Cn.vis (gOf d__law_right b) (Str.ofString "values") = true := by kernel_rfl
theorem o__law_right_values (b) : Cn.loc (gOf d__law_right b) (Str.ofString "values") = true := by kernel_rfl
theorem l__law_right_bound : slotOf d__law_right.N (Str.ofString "bound") = some 13 := by kernel_rfl
theorem v__law_right_bound (b) : Cn.vis (gOf d__law_right b) (Str.ofString "bound") = true := by kernel_rfl
theorem o__law_right_bound (b) : Cn.loc (gOf d__law_right b) (Str.ofString "bound") = true := by kernel_rfl
theorem l__law_right__law_drawn_bound : slotOf d__law_right.N (Str.ofString "_law_drawn_bound") = none := by kernel_rfl
theorem w__law_right__law_drawn_bound (b) : Cn.glob (gOf d__law_right b) (Str.ofString "_law_drawn_bound") = true := by kernel_rfl
theorem l__law_right__law_holds_sum : slotOf d__law_right.N (Str.ofString "_law_holds_sum") = none := by kernel_rfl
theorem w__law_right__law_holds_sum (b) : Cn.glob (gOf d__law_right b) (Str.ofString "_law_holds_sum") = true := by kernel_rfl
theorem l__law_right_add_bounds_tables : slotOf d__law_right.N (Str.ofString "add_bounds_tables") = none := by kernel_rfl
theorem w__law_right_add_bounds_tables (b) : Cn.glob (gOf d__law_right b) (Str.ofString "add_bounds_tables") = true := by kernel_rfl
theorem l__law_right_at : slotOf d__law_right.N (Str.ofString "at") = some 11 := by kernel_rfl
theorem v__law_right_at (b) : Cn.vis (gOf d__law_right b) (Str.ofString "at") = true := by kernel_rfl
theorem o__law_right_at (b) : Cn.loc (gOf d__law_right b) (Str.ofString "at") = true := by kernel_rfl
theorem l__law_right_to : slotOf d__law_right.N (Str.ofString "to") = some 12 := by kernel_rfl
theorem v__law_right_to (b) : Cn.vis (gOf d__law_right b) (Str.ofString "to") = true := by kernel_rfl
theorem o__law_right_to (b) : Cn.loc (gOf d__law_right b) (Str.ofString "to") = true := by kernel_rfl
theorem l__law_right_row : slotOf d__law_right.N (Str.ofString "row") = some 14 := by kernel_rfl
theorem v__law_right_row (b) : Cn.vis (gOf d__law_right b) (Str.ofString "row") = true := by kernel_rfl
theorem o__law_right_row (b) : Cn.loc (gOf d__law_right b) (Str.ofString "row") = true := by kernel_rfl
theorem l__law_right__law_is_whole : slotOf d__law_right.N (Str.ofString "_law_is_whole") = none := by kernel_rfl
theorem w__law_right__law_is_whole (b) : Cn.glob (gOf d__law_right b) (Str.ofString "_law_is_whole") = true := by kernel_rfl
theorem l__law_right_repr : slotOf d__law_right.N (Str.ofString "repr") = none := by kernel_rfl
theorem w__law_right_repr (b) : Cn.glob (gOf d__law_right b) (Str.ofString "repr") = true := by kernel_rfl
theorem l__law_right__law_roll : slotOf d__law_right.N (Str.ofString "_law_roll") = none := by kernel_rfl
theorem w__law_right__law_roll (b) : Cn.glob (gOf d__law_right b) (Str.ofString "_law_roll") = true := by kernel_rfl
theorem l__law_right_list : slotOf d__law_right.N (Str.ofString "list") = none := by kernel_rfl
theorem w__law_right_list (b) : Cn.glob (gOf d__law_right b) (Str.ofString "list") = true := by kernel_rfl
theorem l__law_right_is_bound_tables : slotOf d__law_right.N (Str.ofString "is_bound_tables") = none := by kernel_rfl
theorem w__law_right_is_bound_tables (b) : Cn.glob (gOf d__law_right b) (Str.ofString "is_bound_tables") = true := by kernel_rfl
theorem l__law_right_len : slotOf d__law_right.N (Str.ofString "len") = none := by kernel_rfl
theorem w__law_right_len (b) : Cn.glob (gOf d__law_right b) (Str.ofString "len") = true := by kernel_rfl
theorem l__law_right_is_table : slotOf d__law_right.N (Str.ofString "is_table") = none := by kernel_rfl
theorem w__law_right_is_table (b) : Cn.glob (gOf d__law_right b) (Str.ofString "is_table") = true := by kernel_rfl
theorem l__law_right_is_zone : slotOf d__law_right.N (Str.ofString "is_zone") = none := by kernel_rfl
theorem w__law_right_is_zone (b) : Cn.glob (gOf d__law_right b) (Str.ofString "is_zone") = true := by kernel_rfl
theorem l__law_right__law_is_table : slotOf d__law_right.N (Str.ofString "_law_is_table") = none := by kernel_rfl
theorem w__law_right__law_is_table (b) : Cn.glob (gOf d__law_right b) (Str.ofString "_law_is_table") = true := by kernel_rfl
theorem l__law_right__law_is_zone : slotOf d__law_right.N (Str.ofString "_law_is_zone") = none := by kernel_rfl
theorem w__law_right__law_is_zone (b) : Cn.glob (gOf d__law_right b) (Str.ofString "_law_is_zone") = true := by kernel_rfl
theorem l_law_spot : slotOf d_law.N (Str.ofString "spot") = some 1 := by kernel_rfl
theorem v_law_spot (b) : Cn.vis (gOf d_law b) (Str.ofString "spot") = true := by kernel_rfl
theorem o_law_spot (b) : Cn.loc (gOf d_law b) (Str.ofString "spot") = true := by kernel_rfl
theorem l_law_six : slotOf d_law.N (Str.ofString "six") = some 4 := by kernel_rfl
theorem v_law_six (b) : Cn.vis (gOf d_law b) (Str.ofString "six") = true := by kernel_rfl
theorem o_law_six (b) : Cn.loc (gOf d_law b) (Str.ofString "six") = true := by kernel_rfl
theorem l_law_told : slotOf d_law.N (Str.ofString "told") = some 5 := by kernel_rfl
theorem v_law_told (b) : Cn.vis (gOf d_law b) (Str.ofString "told") = true := by kernel_rfl
theorem o_law_told (b) : Cn.loc (gOf d_law b) (Str.ofString "told") = true := by kernel_rfl
theorem l_law_range : slotOf d_law.N (Str.ofString "range") = none := by kernel_rfl
theorem w_law_range (b) : Cn.glob (gOf d_law b) (Str.ofString "range") = true := by kernel_rfl
theorem l_law_dice : slotOf d_law.N (Str.ofString "dice") = some 2 := by kernel_rfl
theorem v_law_dice (b) : Cn.vis (gOf d_law b) (Str.ofString "dice") = true := by kernel_rfl
theorem o_law_dice (b) : Cn.loc (gOf d_law b) (Str.ofString "dice") = true := by kernel_rfl
theorem l_law_turn : slotOf d_law.N (Str.ofString "turn") = some 3 := by kernel_rfl
theorem v_law_turn (b) : Cn.vis (gOf d_law b) (Str.ofString "turn") = true := by kernel_rfl
theorem o_law_turn (b) : Cn.loc (gOf d_law b) (Str.ofString "turn") = true := by kernel_rfl
theorem l_law_max : slotOf d_law.N (Str.ofString "max") = none := by kernel_rfl
theorem w_law_max (b) : Cn.glob (gOf d_law b) (Str.ofString "max") = true := by kernel_rfl
theorem l_law__law_dice : slotOf d_law.N (Str.ofString "_law_dice") = none := by kernel_rfl
theorem w_law__law_dice (b) : Cn.glob (gOf d_law b) (Str.ofString "_law_dice") = true := by kernel_rfl
theorem l_law_script : slotOf d_law.N (Str.ofString "script") = some 0 := by kernel_rfl
theorem v_law_script (b) : Cn.vis (gOf d_law b) (Str.ofString "script") = true := by kernel_rfl
theorem o_law_script (b) : Cn.loc (gOf d_law b) (Str.ofString "script") = true := by kernel_rfl
theorem l_law_is_table : slotOf d_law.N (Str.ofString "is_table") = none := by kernel_rfl
theorem w_law_is_table (b) : Cn.glob (gOf d_law b) (Str.ofString "is_table") = true := by kernel_rfl
theorem l_law_is_zone : slotOf d_law.N (Str.ofString "is_zone") = none := by kernel_rfl
theorem w_law_is_zone (b) : Cn.glob (gOf d_law b) (Str.ofString "is_zone") = true := by kernel_rfl
theorem l_law_min : slotOf d_law.N (Str.ofString "min") = none := by kernel_rfl
theorem w_law_min (b) : Cn.glob (gOf d_law b) (Str.ofString "min") = true := by kernel_rfl
theorem l_law_add_bounds_tables : slotOf d_law.N (Str.ofString "add_bounds_tables") = none := by kernel_rfl
theorem w_law_add_bounds_tables (b) : Cn.glob (gOf d_law b) (Str.ofString "add_bounds_tables") = true := by kernel_rfl
theorem l_law_len : slotOf d_law.N (Str.ofString "len") = none := by kernel_rfl
theorem w_law_len (b) : Cn.glob (gOf d_law b) (Str.ofString "len") = true := by kernel_rfl
theorem l_law__law_right : slotOf d_law.N (Str.ofString "_law_right") = none := by kernel_rfl
theorem w_law__law_right (b) : Cn.glob (gOf d_law b) (Str.ofString "_law_right") = true := by kernel_rfl
theorem d__law_common_one (b) : Cn.kind (gOf d__law_common b) (Str.ofString "one") = some .local := by kernel_rfl
theorem d__law_common_other (b) : Cn.kind (gOf d__law_common b) (Str.ofString "other") = some .local := by kernel_rfl
theorem x__law_common_one_other : (Str.ofString "other" == Str.ofString "one") = false := by kernel_rfl
theorem d__law_closed_size (b) : Cn.kind (gOf d__law_closed b) (Str.ofString "size") = some .local := by kernel_rfl
theorem d__law_closed_rows (b) : Cn.kind (gOf d__law_closed b) (Str.ofString "rows") = some .cell := by kernel_rfl
theorem x__law_closed_size_rows : (Str.ofString "rows" == Str.ofString "size") = false := by kernel_rfl
theorem d__law_drawn_table_size (b) : Cn.kind (gOf d__law_drawn_table b) (Str.ofString "size") = some .local := by kernel_rfl
theorem d__law_drawn_table_found (b) : Cn.kind (gOf d__law_drawn_table b) (Str.ofString "found") = some .local := by kernel_rfl
theorem x__law_drawn_table_size_found : (Str.ofString "found" == Str.ofString "size") = false := by kernel_rfl
theorem d__law_right_one (b) : Cn.kind (gOf d__law_right b) (Str.ofString "one") = some .local := by kernel_rfl
theorem d__law_right_other (b) : Cn.kind (gOf d__law_right b) (Str.ofString "other") = some .local := by kernel_rfl
theorem d__law_right_third (b) : Cn.kind (gOf d__law_right b) (Str.ofString "third") = some .local := by kernel_rfl
theorem x__law_right_one_other : (Str.ofString "other" == Str.ofString "one") = false := by kernel_rfl
theorem x__law_right_one_third : (Str.ofString "third" == Str.ofString "one") = false := by kernel_rfl
theorem x__law_right_other_third : (Str.ofString "third" == Str.ofString "other") = false := by kernel_rfl
theorem d__law_right_at (b) : Cn.kind (gOf d__law_right b) (Str.ofString "at") = some .local := by kernel_rfl
theorem d__law_right_to (b) : Cn.kind (gOf d__law_right b) (Str.ofString "to") = some .local := by kernel_rfl
theorem x__law_right_at_to : (Str.ofString "to" == Str.ofString "at") = false := by kernel_rfl
theorem en_is_whole (a0 : D) : en0 d_is_whole [a0] = [some a0] := by kernel_rfl
theorem en_is_bound (a0 : D) : en0 d_is_bound [a0] = [some a0] := by kernel_rfl
theorem en_is_bound_marks (a0 : D) : en0 d_is_bound_marks [a0] = [some a0] := by kernel_rfl
theorem en_add_bounds (a0 a1 : D) : en0 d_add_bounds [a0, a1] = [some a0, some a1] := by kernel_rfl
theorem en_add_bounds_marks (a0 a1 : D) : en0 d_add_bounds_marks [a0, a1] = [some a0, some a1] := by kernel_rfl
theorem en_is_tighter (a0 a1 : D) : en0 d_is_tighter [a0, a1] = [some a0, some a1] := by kernel_rfl
theorem en_tight (a0 a1 : D) : en0 d_tight [a0, a1] = [some a0, some a1] := by kernel_rfl
theorem en_close_table (a0 : D) : en0 d_close_table [a0] = [some a0, none, none, none, none, none, none, none, none, none, none] := by kernel_rfl
theorem en_is_table_in (a0 a1 : D) : en0 d_is_table_in [a0, a1] = [some a0, some a1, none, none] := by kernel_rfl
theorem en_is_zone_of (a0 a1 : D) : en0 d_is_zone_of [a0, a1] = [some a0, some a1, none] := by kernel_rfl
theorem en_is_table_value (a0 : D) : en0 d_is_table_value [a0] = [some a0] := by kernel_rfl
theorem en_is_zone_value (a0 : D) : en0 d_is_zone_value [a0] = [some a0] := by kernel_rfl
theorem en_add_bounds_tables (a0 a1 : D) : en0 d_add_bounds_tables [a0, a1] = [some a0, some a1] := by kernel_rfl
theorem en_is_bound_tables (a0 : D) : en0 d_is_bound_tables [a0] = [some a0] := by kernel_rfl
theorem en_is_table (a0 : D) : en0 d_is_table [a0] = [some a0] := by kernel_rfl
theorem en_is_zone (a0 : D) : en0 d_is_zone [a0] = [some a0] := by kernel_rfl
theorem en__law_dice (a0 a1 : D) : en0 d__law_dice [a0, a1] = [some a0, some a1, none, none] := by kernel_rfl
theorem en__law_roll (a0 a1 : D) : en0 d__law_roll [a0, a1] = [some a0, some a1, none, none, none] := by kernel_rfl
theorem en__law_pick (a0 a1 : D) : en0 d__law_pick [a0, a1] = [some a0, some a1] := by kernel_rfl
theorem en__law_common (a0 a1 : D) : en0 d__law_common [a0, a1] = [some a0, some a1] := by kernel_rfl
theorem en__law_share (a0 a1 : D) : en0 d__law_share [a0, a1] = [some a0, some a1, none] := by kernel_rfl
theorem en__law_plus (a0 a1 : D) : en0 d__law_plus [a0, a1] = [some a0, some a1] := by kernel_rfl
theorem en__law_is_whole (a0 : D) : en0 d__law_is_whole [a0] = [some a0] := by kernel_rfl
theorem en__law_sum (a0 a1 : D) : en0 d__law_sum [a0, a1] = [some a0, some a1] := by kernel_rfl
theorem en__law_tight (a0 a1 : D) : en0 d__law_tight [a0, a1] = [some a0, some a1] := by kernel_rfl
theorem en__law_closed (a0 : D) : en0 d__law_closed [a0] = [some a0, none, none, none, none, none, none, none] := by kernel_rfl
theorem en__law_holds (a0 a1 : D) : en0 d__law_holds [a0, a1] = [some a0, some a1] := by kernel_rfl
theorem en__law_is_table (a0 : D) : en0 d__law_is_table [a0] = [some a0, none, none] := by kernel_rfl
theorem en__law_is_zone (a0 : D) : en0 d__law_is_zone [a0] = [some a0] := by kernel_rfl
theorem en__law_drawn_table (a0 a1 : D) : en0 d__law_drawn_table [a0, a1] = [some a0, some a1, none, none, none, none, none, none, none] := by kernel_rfl
theorem en__law_drawn_zone (a0 a1 : D) : en0 d__law_drawn_zone [a0, a1] = [some a0, some a1, none, none, none, none, none, none, none] := by kernel_rfl
theorem en__law_drawn_bound (a0 : D) : en0 d__law_drawn_bound [a0] = [some a0] := by kernel_rfl
theorem en__law_holds_sum (a0 a1 a2 : D) : en0 d__law_holds_sum [a0, a1, a2] = [some a0, some a1, some a2, none, none, none, none] := by kernel_rfl
theorem en__law_right (a0 : D) : en0 d__law_right [a0] = [some a0, none, none, none, none, none, none, none, none, none, none, none, none, none, none] := by kernel_rfl
theorem en_law (a0 : D) : en0 d_law [a0] = [some a0, none, none, none, none, none] := by kernel_rfl
theorem k_InvalidOperation : cM.consts.lookup (Str.ofString "InvalidOperation") = none := by kernel_rfl
theorem g_InvalidOperation : cM.defs.contains (Str.ofString "InvalidOperation") = false := by kernel_rfl
theorem r_InvalidOperation : ((Str.ofString "InvalidOperation") == (Str.ofString "range")) = false := by kernel_rfl
theorem e_InvalidOperation : ((Str.ofString "InvalidOperation") == (Str.ofString "enumerate")) = false := by kernel_rfl
theorem k_MOST_THINGS : cM.consts.lookup (Str.ofString "MOST_THINGS") = some (.int (6)) := by kernel_rfl
theorem r_MOST_THINGS : ((Str.ofString "MOST_THINGS") == (Str.ofString "range")) = false := by kernel_rfl
theorem e_MOST_THINGS : ((Str.ofString "MOST_THINGS") == (Str.ofString "enumerate")) = false := by kernel_rfl
theorem k__law_closed : cM.consts.lookup (Str.ofString "_law_closed") = none := by kernel_rfl
theorem g__law_closed : cM.defs.contains (Str.ofString "_law_closed") = true := by kernel_rfl
theorem r__law_closed : ((Str.ofString "_law_closed") == (Str.ofString "range")) = false := by kernel_rfl
theorem e__law_closed : ((Str.ofString "_law_closed") == (Str.ofString "enumerate")) = false := by kernel_rfl
theorem k__law_common : cM.consts.lookup (Str.ofString "_law_common") = none := by kernel_rfl
theorem g__law_common : cM.defs.contains (Str.ofString "_law_common") = true := by kernel_rfl
theorem r__law_common : ((Str.ofString "_law_common") == (Str.ofString "range")) = false := by kernel_rfl
theorem e__law_common : ((Str.ofString "_law_common") == (Str.ofString "enumerate")) = false := by kernel_rfl
theorem k__law_dice : cM.consts.lookup (Str.ofString "_law_dice") = none := by kernel_rfl
theorem g__law_dice : cM.defs.contains (Str.ofString "_law_dice") = true := by kernel_rfl
theorem r__law_dice : ((Str.ofString "_law_dice") == (Str.ofString "range")) = false := by kernel_rfl
theorem e__law_dice : ((Str.ofString "_law_dice") == (Str.ofString "enumerate")) = false := by kernel_rfl
theorem k__law_drawn_bound : cM.consts.lookup (Str.ofString "_law_drawn_bound") = none := by kernel_rfl
theorem g__law_drawn_bound : cM.defs.contains (Str.ofString "_law_drawn_bound") = true := by kernel_rfl
theorem r__law_drawn_bound : ((Str.ofString "_law_drawn_bound") == (Str.ofString "range")) = false := by kernel_rfl
theorem e__law_drawn_bound : ((Str.ofString "_law_drawn_bound") == (Str.ofString "enumerate")) = false := by kernel_rfl
theorem k__law_drawn_table : cM.consts.lookup (Str.ofString "_law_drawn_table") = none := by kernel_rfl
theorem g__law_drawn_table : cM.defs.contains (Str.ofString "_law_drawn_table") = true := by kernel_rfl
theorem r__law_drawn_table : ((Str.ofString "_law_drawn_table") == (Str.ofString "range")) = false := by kernel_rfl
theorem e__law_drawn_table : ((Str.ofString "_law_drawn_table") == (Str.ofString "enumerate")) = false := by kernel_rfl
theorem k__law_drawn_zone : cM.consts.lookup (Str.ofString "_law_drawn_zone") = none := by kernel_rfl
theorem g__law_drawn_zone : cM.defs.contains (Str.ofString "_law_drawn_zone") = true := by kernel_rfl
theorem r__law_drawn_zone : ((Str.ofString "_law_drawn_zone") == (Str.ofString "range")) = false := by kernel_rfl
theorem e__law_drawn_zone : ((Str.ofString "_law_drawn_zone") == (Str.ofString "enumerate")) = false := by kernel_rfl
theorem k__law_holds : cM.consts.lookup (Str.ofString "_law_holds") = none := by kernel_rfl
theorem g__law_holds : cM.defs.contains (Str.ofString "_law_holds") = true := by kernel_rfl
theorem r__law_holds : ((Str.ofString "_law_holds") == (Str.ofString "range")) = false := by kernel_rfl
theorem e__law_holds : ((Str.ofString "_law_holds") == (Str.ofString "enumerate")) = false := by kernel_rfl
theorem k__law_holds_sum : cM.consts.lookup (Str.ofString "_law_holds_sum") = none := by kernel_rfl
theorem g__law_holds_sum : cM.defs.contains (Str.ofString "_law_holds_sum") = true := by kernel_rfl
theorem r__law_holds_sum : ((Str.ofString "_law_holds_sum") == (Str.ofString "range")) = false := by kernel_rfl
theorem e__law_holds_sum : ((Str.ofString "_law_holds_sum") == (Str.ofString "enumerate")) = false := by kernel_rfl
theorem k__law_is_table : cM.consts.lookup (Str.ofString "_law_is_table") = none := by kernel_rfl
theorem g__law_is_table : cM.defs.contains (Str.ofString "_law_is_table") = true := by kernel_rfl
theorem r__law_is_table : ((Str.ofString "_law_is_table") == (Str.ofString "range")) = false := by kernel_rfl
theorem e__law_is_table : ((Str.ofString "_law_is_table") == (Str.ofString "enumerate")) = false := by kernel_rfl
theorem k__law_is_whole : cM.consts.lookup (Str.ofString "_law_is_whole") = none := by kernel_rfl
theorem g__law_is_whole : cM.defs.contains (Str.ofString "_law_is_whole") = true := by kernel_rfl
theorem r__law_is_whole : ((Str.ofString "_law_is_whole") == (Str.ofString "range")) = false := by kernel_rfl
theorem e__law_is_whole : ((Str.ofString "_law_is_whole") == (Str.ofString "enumerate")) = false := by kernel_rfl
theorem k__law_is_zone : cM.consts.lookup (Str.ofString "_law_is_zone") = none := by kernel_rfl
theorem g__law_is_zone : cM.defs.contains (Str.ofString "_law_is_zone") = true := by kernel_rfl
theorem r__law_is_zone : ((Str.ofString "_law_is_zone") == (Str.ofString "range")) = false := by kernel_rfl
theorem e__law_is_zone : ((Str.ofString "_law_is_zone") == (Str.ofString "enumerate")) = false := by kernel_rfl
theorem k__law_pick : cM.consts.lookup (Str.ofString "_law_pick") = none := by kernel_rfl
theorem g__law_pick : cM.defs.contains (Str.ofString "_law_pick") = true := by kernel_rfl
theorem r__law_pick : ((Str.ofString "_law_pick") == (Str.ofString "range")) = false := by kernel_rfl
theorem e__law_pick : ((Str.ofString "_law_pick") == (Str.ofString "enumerate")) = false := by kernel_rfl
theorem k__law_plus : cM.consts.lookup (Str.ofString "_law_plus") = none := by kernel_rfl
theorem g__law_plus : cM.defs.contains (Str.ofString "_law_plus") = true := by kernel_rfl
theorem r__law_plus : ((Str.ofString "_law_plus") == (Str.ofString "range")) = false := by kernel_rfl
theorem e__law_plus : ((Str.ofString "_law_plus") == (Str.ofString "enumerate")) = false := by kernel_rfl
theorem k__law_right : cM.consts.lookup (Str.ofString "_law_right") = none := by kernel_rfl
theorem g__law_right : cM.defs.contains (Str.ofString "_law_right") = true := by kernel_rfl
theorem r__law_right : ((Str.ofString "_law_right") == (Str.ofString "range")) = false := by kernel_rfl
theorem e__law_right : ((Str.ofString "_law_right") == (Str.ofString "enumerate")) = false := by kernel_rfl
theorem k__law_roll : cM.consts.lookup (Str.ofString "_law_roll") = none := by kernel_rfl
theorem g__law_roll : cM.defs.contains (Str.ofString "_law_roll") = true := by kernel_rfl
theorem r__law_roll : ((Str.ofString "_law_roll") == (Str.ofString "range")) = false := by kernel_rfl
theorem e__law_roll : ((Str.ofString "_law_roll") == (Str.ofString "enumerate")) = false := by kernel_rfl
theorem k__law_share : cM.consts.lookup (Str.ofString "_law_share") = none := by kernel_rfl
theorem g__law_share : cM.defs.contains (Str.ofString "_law_share") = true := by kernel_rfl
theorem r__law_share : ((Str.ofString "_law_share") == (Str.ofString "range")) = false := by kernel_rfl
theorem e__law_share : ((Str.ofString "_law_share") == (Str.ofString "enumerate")) = false := by kernel_rfl
theorem k__law_sum : cM.consts.lookup (Str.ofString "_law_sum") = none := by kernel_rfl
theorem g__law_sum : cM.defs.contains (Str.ofString "_law_sum") = true := by kernel_rfl
theorem r__law_sum : ((Str.ofString "_law_sum") == (Str.ofString "range")) = false := by kernel_rfl
theorem e__law_sum : ((Str.ofString "_law_sum") == (Str.ofString "enumerate")) = false := by kernel_rfl
theorem k__law_tight : cM.consts.lookup (Str.ofString "_law_tight") = none := by kernel_rfl
theorem g__law_tight : cM.defs.contains (Str.ofString "_law_tight") = true := by kernel_rfl
theorem r__law_tight : ((Str.ofString "_law_tight") == (Str.ofString "range")) = false := by kernel_rfl
theorem e__law_tight : ((Str.ofString "_law_tight") == (Str.ofString "enumerate")) = false := by kernel_rfl
theorem k_abs : cM.consts.lookup (Str.ofString "abs") = none := by kernel_rfl
theorem g_abs : cM.defs.contains (Str.ofString "abs") = false := by kernel_rfl
theorem f_abs : cM.free.contains (Str.ofString "abs") = true := by kernel_rfl
theorem b_abs : bltOf (Str.ofString "abs") = some .abs := by kernel_rfl
theorem r_abs : ((Str.ofString "abs") == (Str.ofString "range")) = false := by kernel_rfl
theorem e_abs : ((Str.ofString "abs") == (Str.ofString "enumerate")) = false := by kernel_rfl
theorem k_add_bounds_marks : cM.consts.lookup (Str.ofString "add_bounds_marks") = none := by kernel_rfl
theorem g_add_bounds_marks : cM.defs.contains (Str.ofString "add_bounds_marks") = true := by kernel_rfl
theorem r_add_bounds_marks : ((Str.ofString "add_bounds_marks") == (Str.ofString "range")) = false := by kernel_rfl
theorem e_add_bounds_marks : ((Str.ofString "add_bounds_marks") == (Str.ofString "enumerate")) = false := by kernel_rfl
theorem k_add_bounds_tables : cM.consts.lookup (Str.ofString "add_bounds_tables") = none := by kernel_rfl
theorem g_add_bounds_tables : cM.defs.contains (Str.ofString "add_bounds_tables") = true := by kernel_rfl
theorem r_add_bounds_tables : ((Str.ofString "add_bounds_tables") == (Str.ofString "range")) = false := by kernel_rfl
theorem e_add_bounds_tables : ((Str.ofString "add_bounds_tables") == (Str.ofString "enumerate")) = false := by kernel_rfl
theorem k_all : cM.consts.lookup (Str.ofString "all") = none := by kernel_rfl
theorem g_all : cM.defs.contains (Str.ofString "all") = false := by kernel_rfl
theorem f_all : cM.free.contains (Str.ofString "all") = true := by kernel_rfl
theorem b_all : bltOf (Str.ofString "all") = some .all := by kernel_rfl
theorem r_all : ((Str.ofString "all") == (Str.ofString "range")) = false := by kernel_rfl
theorem e_all : ((Str.ofString "all") == (Str.ofString "enumerate")) = false := by kernel_rfl
theorem k_any : cM.consts.lookup (Str.ofString "any") = none := by kernel_rfl
theorem g_any : cM.defs.contains (Str.ofString "any") = false := by kernel_rfl
theorem f_any : cM.free.contains (Str.ofString "any") = true := by kernel_rfl
theorem b_any : bltOf (Str.ofString "any") = some .any := by kernel_rfl
theorem r_any : ((Str.ofString "any") == (Str.ofString "range")) = false := by kernel_rfl
theorem e_any : ((Str.ofString "any") == (Str.ofString "enumerate")) = false := by kernel_rfl
theorem k_bool : cM.consts.lookup (Str.ofString "bool") = none := by kernel_rfl
theorem g_bool : cM.defs.contains (Str.ofString "bool") = false := by kernel_rfl
theorem f_bool : cM.free.contains (Str.ofString "bool") = true := by kernel_rfl
theorem y_bool : tyName (Str.ofString "bool") = some "bool" := by kernel_rfl
theorem r_bool : ((Str.ofString "bool") == (Str.ofString "range")) = false := by kernel_rfl
theorem e_bool : ((Str.ofString "bool") == (Str.ofString "enumerate")) = false := by kernel_rfl
theorem k_close_table : cM.consts.lookup (Str.ofString "close_table") = none := by kernel_rfl
theorem g_close_table : cM.defs.contains (Str.ofString "close_table") = true := by kernel_rfl
theorem r_close_table : ((Str.ofString "close_table") == (Str.ofString "range")) = false := by kernel_rfl
theorem e_close_table : ((Str.ofString "close_table") == (Str.ofString "enumerate")) = false := by kernel_rfl
theorem k_enumerate : cM.consts.lookup (Str.ofString "enumerate") = none := by kernel_rfl
theorem g_enumerate : cM.defs.contains (Str.ofString "enumerate") = false := by kernel_rfl
theorem f_enumerate : cM.free.contains (Str.ofString "enumerate") = true := by kernel_rfl
theorem r_enumerate : ((Str.ofString "enumerate") == (Str.ofString "range")) = false := by kernel_rfl
theorem e_enumerate : ((Str.ofString "enumerate") == (Str.ofString "enumerate")) = true := by kernel_rfl
theorem k_int : cM.consts.lookup (Str.ofString "int") = none := by kernel_rfl
theorem g_int : cM.defs.contains (Str.ofString "int") = false := by kernel_rfl
theorem f_int : cM.free.contains (Str.ofString "int") = true := by kernel_rfl
theorem b_int : bltOf (Str.ofString "int") = some .int := by kernel_rfl
theorem y_int : tyName (Str.ofString "int") = some "int" := by kernel_rfl
theorem r_int : ((Str.ofString "int") == (Str.ofString "range")) = false := by kernel_rfl
theorem e_int : ((Str.ofString "int") == (Str.ofString "enumerate")) = false := by kernel_rfl
theorem k_is_bound_marks : cM.consts.lookup (Str.ofString "is_bound_marks") = none := by kernel_rfl
theorem g_is_bound_marks : cM.defs.contains (Str.ofString "is_bound_marks") = true := by kernel_rfl
theorem r_is_bound_marks : ((Str.ofString "is_bound_marks") == (Str.ofString "range")) = false := by kernel_rfl
theorem e_is_bound_marks : ((Str.ofString "is_bound_marks") == (Str.ofString "enumerate")) = false := by kernel_rfl
theorem k_is_bound_tables : cM.consts.lookup (Str.ofString "is_bound_tables") = none := by kernel_rfl
theorem g_is_bound_tables : cM.defs.contains (Str.ofString "is_bound_tables") = true := by kernel_rfl
theorem r_is_bound_tables : ((Str.ofString "is_bound_tables") == (Str.ofString "range")) = false := by kernel_rfl
theorem e_is_bound_tables : ((Str.ofString "is_bound_tables") == (Str.ofString "enumerate")) = false := by kernel_rfl
theorem k_is_table : cM.consts.lookup (Str.ofString "is_table") = none := by kernel_rfl
theorem g_is_table : cM.defs.contains (Str.ofString "is_table") = true := by kernel_rfl
theorem r_is_table : ((Str.ofString "is_table") == (Str.ofString "range")) = false := by kernel_rfl
theorem e_is_table : ((Str.ofString "is_table") == (Str.ofString "enumerate")) = false := by kernel_rfl
theorem k_is_table_in : cM.consts.lookup (Str.ofString "is_table_in") = none := by kernel_rfl
theorem g_is_table_in : cM.defs.contains (Str.ofString "is_table_in") = true := by kernel_rfl
theorem r_is_table_in : ((Str.ofString "is_table_in") == (Str.ofString "range")) = false := by kernel_rfl
theorem e_is_table_in : ((Str.ofString "is_table_in") == (Str.ofString "enumerate")) = false := by kernel_rfl
theorem k_is_table_value : cM.consts.lookup (Str.ofString "is_table_value") = none := by kernel_rfl
theorem g_is_table_value : cM.defs.contains (Str.ofString "is_table_value") = true := by kernel_rfl
theorem r_is_table_value : ((Str.ofString "is_table_value") == (Str.ofString "range")) = false := by kernel_rfl
theorem e_is_table_value : ((Str.ofString "is_table_value") == (Str.ofString "enumerate")) = false := by kernel_rfl
theorem k_is_tighter : cM.consts.lookup (Str.ofString "is_tighter") = none := by kernel_rfl
theorem g_is_tighter : cM.defs.contains (Str.ofString "is_tighter") = true := by kernel_rfl
theorem r_is_tighter : ((Str.ofString "is_tighter") == (Str.ofString "range")) = false := by kernel_rfl
theorem e_is_tighter : ((Str.ofString "is_tighter") == (Str.ofString "enumerate")) = false := by kernel_rfl
theorem k_is_whole : cM.consts.lookup (Str.ofString "is_whole") = none := by kernel_rfl
theorem g_is_whole : cM.defs.contains (Str.ofString "is_whole") = true := by kernel_rfl
theorem r_is_whole : ((Str.ofString "is_whole") == (Str.ofString "range")) = false := by kernel_rfl
theorem e_is_whole : ((Str.ofString "is_whole") == (Str.ofString "enumerate")) = false := by kernel_rfl
theorem k_is_zone : cM.consts.lookup (Str.ofString "is_zone") = none := by kernel_rfl
theorem g_is_zone : cM.defs.contains (Str.ofString "is_zone") = true := by kernel_rfl
theorem r_is_zone : ((Str.ofString "is_zone") == (Str.ofString "range")) = false := by kernel_rfl
theorem e_is_zone : ((Str.ofString "is_zone") == (Str.ofString "enumerate")) = false := by kernel_rfl
theorem k_is_zone_of : cM.consts.lookup (Str.ofString "is_zone_of") = none := by kernel_rfl
theorem g_is_zone_of : cM.defs.contains (Str.ofString "is_zone_of") = true := by kernel_rfl
theorem r_is_zone_of : ((Str.ofString "is_zone_of") == (Str.ofString "range")) = false := by kernel_rfl
theorem e_is_zone_of : ((Str.ofString "is_zone_of") == (Str.ofString "enumerate")) = false := by kernel_rfl
theorem k_is_zone_value : cM.consts.lookup (Str.ofString "is_zone_value") = none := by kernel_rfl
theorem g_is_zone_value : cM.defs.contains (Str.ofString "is_zone_value") = true := by kernel_rfl
theorem r_is_zone_value : ((Str.ofString "is_zone_value") == (Str.ofString "range")) = false := by kernel_rfl
theorem e_is_zone_value : ((Str.ofString "is_zone_value") == (Str.ofString "enumerate")) = false := by kernel_rfl
theorem k_isinstance : cM.consts.lookup (Str.ofString "isinstance") = none := by kernel_rfl
theorem g_isinstance : cM.defs.contains (Str.ofString "isinstance") = false := by kernel_rfl
theorem f_isinstance : cM.free.contains (Str.ofString "isinstance") = true := by kernel_rfl
theorem b_isinstance : bltOf (Str.ofString "isinstance") = some .isinstance := by kernel_rfl
theorem r_isinstance : ((Str.ofString "isinstance") == (Str.ofString "range")) = false := by kernel_rfl
theorem e_isinstance : ((Str.ofString "isinstance") == (Str.ofString "enumerate")) = false := by kernel_rfl
theorem k_len : cM.consts.lookup (Str.ofString "len") = none := by kernel_rfl
theorem g_len : cM.defs.contains (Str.ofString "len") = false := by kernel_rfl
theorem f_len : cM.free.contains (Str.ofString "len") = true := by kernel_rfl
theorem b_len : bltOf (Str.ofString "len") = some .len := by kernel_rfl
theorem r_len : ((Str.ofString "len") == (Str.ofString "range")) = false := by kernel_rfl
theorem e_len : ((Str.ofString "len") == (Str.ofString "enumerate")) = false := by kernel_rfl
theorem k_list : cM.consts.lookup (Str.ofString "list") = none := by kernel_rfl
theorem g_list : cM.defs.contains (Str.ofString "list") = false := by kernel_rfl
theorem f_list : cM.free.contains (Str.ofString "list") = true := by kernel_rfl
theorem b_list : bltOf (Str.ofString "list") = some .list := by kernel_rfl
theorem y_list : tyName (Str.ofString "list") = some "list" := by kernel_rfl
theorem r_list : ((Str.ofString "list") == (Str.ofString "range")) = false := by kernel_rfl
theorem e_list : ((Str.ofString "list") == (Str.ofString "enumerate")) = false := by kernel_rfl
theorem k_max : cM.consts.lookup (Str.ofString "max") = none := by kernel_rfl
theorem g_max : cM.defs.contains (Str.ofString "max") = false := by kernel_rfl
theorem f_max : cM.free.contains (Str.ofString "max") = true := by kernel_rfl
theorem b_max : bltOf (Str.ofString "max") = some .max := by kernel_rfl
theorem r_max : ((Str.ofString "max") == (Str.ofString "range")) = false := by kernel_rfl
theorem e_max : ((Str.ofString "max") == (Str.ofString "enumerate")) = false := by kernel_rfl
theorem k_min : cM.consts.lookup (Str.ofString "min") = none := by kernel_rfl
theorem g_min : cM.defs.contains (Str.ofString "min") = false := by kernel_rfl
theorem f_min : cM.free.contains (Str.ofString "min") = true := by kernel_rfl
theorem b_min : bltOf (Str.ofString "min") = some .min := by kernel_rfl
theorem r_min : ((Str.ofString "min") == (Str.ofString "range")) = false := by kernel_rfl
theorem e_min : ((Str.ofString "min") == (Str.ofString "enumerate")) = false := by kernel_rfl
theorem k_range : cM.consts.lookup (Str.ofString "range") = none := by kernel_rfl
theorem g_range : cM.defs.contains (Str.ofString "range") = false := by kernel_rfl
theorem f_range : cM.free.contains (Str.ofString "range") = true := by kernel_rfl
theorem r_range : ((Str.ofString "range") == (Str.ofString "range")) = true := by kernel_rfl
theorem e_range : ((Str.ofString "range") == (Str.ofString "enumerate")) = false := by kernel_rfl
theorem k_repr : cM.consts.lookup (Str.ofString "repr") = none := by kernel_rfl
theorem g_repr : cM.defs.contains (Str.ofString "repr") = false := by kernel_rfl
theorem f_repr : cM.free.contains (Str.ofString "repr") = true := by kernel_rfl
theorem b_repr : bltOf (Str.ofString "repr") = some .repr := by kernel_rfl
theorem r_repr : ((Str.ofString "repr") == (Str.ofString "range")) = false := by kernel_rfl
theorem e_repr : ((Str.ofString "repr") == (Str.ofString "enumerate")) = false := by kernel_rfl
theorem k_tight : cM.consts.lookup (Str.ofString "tight") = none := by kernel_rfl
theorem g_tight : cM.defs.contains (Str.ofString "tight") = true := by kernel_rfl
theorem r_tight : ((Str.ofString "tight") == (Str.ofString "range")) = false := by kernel_rfl
theorem e_tight : ((Str.ofString "tight") == (Str.ofString "enumerate")) = false := by kernel_rfl
theorem k_tuple : cM.consts.lookup (Str.ofString "tuple") = none := by kernel_rfl
theorem g_tuple : cM.defs.contains (Str.ofString "tuple") = false := by kernel_rfl
theorem f_tuple : cM.free.contains (Str.ofString "tuple") = true := by kernel_rfl
theorem b_tuple : bltOf (Str.ofString "tuple") = some .tuple := by kernel_rfl
theorem y_tuple : tyName (Str.ofString "tuple") = some "tuple" := by kernel_rfl
theorem r_tuple : ((Str.ofString "tuple") == (Str.ofString "range")) = false := by kernel_rfl
theorem e_tuple : ((Str.ofString "tuple") == (Str.ofString "enumerate")) = false := by kernel_rfl
end K19

set_option Elab.async false
set_option linter.all false
set_option maxRecDepth 100000
set_option maxHeartbeats 4000000
namespace K19
open PySem L2 Ev
local macro_rules | `(tactic| walk_at "go add_bounds_marks") => `(tactic| (rw [lev_eq (f := d_add_bounds_marks) (by rfl) rfl, en_add_bounds_marks]; have hb : defBody d_add_bounds_marks.st = defBody d_add_bounds_marks.st := rfl; (conv at hb => (rhs; whnf)); rw [hb]; clear hb))
local macro_rules | `(tactic| walk_at "ev add_bounds_marks") => `(tactic| simp (decide := true) only [evSs, evS, ownOf, List.filterMap_cons, List.filterMap_nil, List.map_cons, List.map_nil, Option.map_some, Option.map_none, asgT, asgI, pp_1, List.nil_append, lenOk2, frzL_nil, frzL_cons, frz_tup, Int.mul_one, plainIx, intE, itE_t, itE_l, item_0, item_1, item_2, li_0, li_1, li_2, asgXs, takes_nil, takes_cons, swap, namesOn, headLine, Expr.pos, ed2, ed3, foldedForSure, constantsAlone, List.all_cons, List.all_nil, List.length_cons, List.length_nil, Nat.reduceAdd, Nat.reduceBEq, Nat.reduceBNe, Bool.or_true, Bool.or_false, Bool.true_or, Bool.false_or, beq_self_eq_true, bne_self_eq_false, List.set_cons_zero, List.set_cons_succ, evT, evTs, evE, evO, evA, evB, evP, evF, evI, evW, bind_ok, bind_st, ofO_s, c_val, c_han, g_0, g_s, sole_v, sole_h, take_v, ow_non, ow_bl, ow_int, ow_str, ow_tup, ow_own, ow_fro, ow_ext, ow_ty, ow_fn, ow_dic, b_add, b_sub, b_mod, b_div, b_mul, n_non, n_bl, n_int, n_str, n_tup, n_lst, n_dic, m_is, m_isnot, m_lt, m_le, m_gt, m_ge, m_eq, m_ne, q_int, q_non1, q_non2, q_bl, t_bl, t_int, t_non, t_tup, t_lst, s_and, s_or, plainOp, gOf_N, gOf_bor, sub_N, name_eq, asgN_eq, call_eq, lend_nil, lend_val, lend_han, gb_nil, gb_none, gb_some, noStar, Bool.false_eq_true, if_false, if_true, Bool.not_true, Bool.not_false, fin, outsOf, decide_true, decide_false, Bool.true_and, Bool.and_true, Bool.false_and, Bool.and_false, reduceCtorEq, Option.map_some, frz, frz_int, contents_nil, contents_cons, bl_int, bl_bl, bl_lenT, bl_lenL, bl_abs, bl_max, bl_min, bl_listT, bl_listL, bl_tupT, bl_tupL, bl_any, bl_all, is_int, is_ty, is_non_int, is_non_bool, is_non_tuple, is_non_list, is_non_str, is_non_dict, is_bl_int, is_bl_bool, is_bl_tuple, is_bl_list, is_bl_str, is_bl_dict, is_int_bool, is_int_tuple, is_int_list, is_int_str, is_int_dict, is_str_int, is_str_bool, is_str_tuple, is_str_list, is_str_str, is_str_dict, is_tup_int, is_tup_bool, is_tup_tuple, is_tup_list, is_tup_str, is_tup_dict, is_lst_int, is_lst_bool, is_lst_tuple, is_lst_list, is_lst_str, is_lst_dict, is_dic_int, is_dic_bool, is_dic_tuple, is_dic_list, is_dic_str, is_dic_dict, l_add_bounds_marks_one, v_add_bounds_marks_one, o_add_bounds_marks_one, l_add_bounds_marks_other, v_add_bounds_marks_other, o_add_bounds_marks_other, *])
local macro_rules | `(tactic| walk_at "go tight") => `(tactic| (rw [lev_eq (f := d_tight) (by rfl) rfl, en_tight]; have hb : defBody d_tight.st = defBody d_tight.st := rfl; (conv at hb => (rhs; whnf)); rw [hb]; clear hb))
local macro_rules | `(tactic| walk_at "ev tight") => `(tactic| simp (decide := true) only [evSs, evS, ownOf, List.filterMap_cons, List.filterMap_nil, List.map_cons, List.map_nil, Option.map_some, Option.map_none, asgT, asgI, pp_1, List.nil_append, lenOk2, frzL_nil, frzL_cons, frz_tup, Int.mul_one, plainIx, intE, itE_t, itE_l, item_0, item_1, item_2, li_0, li_1, li_2, asgXs, takes_nil, takes_cons, swap, namesOn, headLine, Expr.pos, ed2, ed3, foldedForSure, constantsAlone, List.all_cons, List.all_nil, List.length_cons, List.length_nil, Nat.reduceAdd, Nat.reduceBEq, Nat.reduceBNe, Bool.or_true, Bool.or_false, Bool.true_or, Bool.false_or, beq_self_eq_true, bne_self_eq_false, List.set_cons_zero, List.set_cons_succ, evT, evTs, evE, evO, evA, evB, evP, evF, evI, evW, bind_ok, bind_st, ofO_s, c_val, c_han, g_0, g_s, sole_v, sole_h, take_v, ow_non, ow_bl, ow_int, ow_str, ow_tup, ow_own, ow_fro, ow_ext, ow_ty, ow_fn, ow_dic, b_add, b_sub, b_mod, b_div, b_mul, n_non, n_bl, n_int, n_str, n_tup, n_lst, n_dic, m_is, m_isnot, m_lt, m_le, m_gt, m_ge, m_eq, m_ne, q_int, q_non1, q_non2, q_bl, t_bl, t_int, t_non, t_tup, t_lst, s_and, s_or, plainOp, gOf_N, gOf_bor, sub_N, name_eq, asgN_eq, call_eq, lend_nil, lend_val, lend_han, gb_nil, gb_none, gb_some, noStar, Bool.false_eq_true, if_false, if_true, Bool.not_true, Bool.not_false, fin, outsOf, decide_true, decide_false, Bool.true_and, Bool.and_true, Bool.false_and, Bool.and_false, reduceCtorEq, Option.map_some, frz, frz_int, contents_nil, contents_cons, bl_int, bl_bl, bl_lenT, bl_lenL, bl_abs, bl_max, bl_min, bl_listT, bl_listL, bl_tupT, bl_tupL, bl_any, bl_all, is_int, is_ty, is_non_int, is_non_bool, is_non_tuple, is_non_list, is_non_str, is_non_dict, is_bl_int, is_bl_bool, is_bl_tuple, is_bl_list, is_bl_str, is_bl_dict, is_int_bool, is_int_tuple, is_int_list, is_int_str, is_int_dict, is_str_int, is_str_bool, is_str_tuple, is_str_list, is_str_str, is_str_dict, is_tup_int, is_tup_bool, is_tup_tuple, is_tup_list, is_tup_str, is_tup_dict, is_lst_int, is_lst_bool, is_lst_tuple, is_lst_list, is_lst_str, is_lst_dict, is_dic_int, is_dic_bool, is_dic_tuple, is_dic_list, is_dic_str, is_dic_dict, l_tight_one, v_tight_one, o_tight_one, l_tight_other, v_tight_other, o_tight_other, l_tight_is_tighter, w_tight_is_tighter, k_is_tighter, g_is_tighter, r_is_tighter, e_is_tighter, *])
local macro_rules | `(tactic| walk_at "go _law_roll") => `(tactic| (rw [lev_eq (f := d__law_roll) (by rfl) rfl, en__law_roll]; have hb : defBody d__law_roll.st = defBody d__law_roll.st := rfl; (conv at hb => (rhs; whnf)); rw [hb]; clear hb))
local macro_rules | `(tactic| walk_at "ev _law_roll") => `(tactic| simp (decide := true) only [evSs, evS, ownOf, List.filterMap_cons, List.filterMap_nil, List.map_cons, List.map_nil, Option.map_some, Option.map_none, asgT, asgI, pp_1, List.nil_append, lenOk2, frzL_nil, frzL_cons, frz_tup, Int.mul_one, plainIx, intE, itE_t, itE_l, item_0, item_1, item_2, li_0, li_1, li_2, asgXs, takes_nil, takes_cons, swap, namesOn, headLine, Expr.pos, ed2, ed3, foldedForSure, constantsAlone, List.all_cons, List.all_nil, List.length_cons, List.length_nil, Nat.reduceAdd, Nat.reduceBEq, Nat.reduceBNe, Bool.or_true, Bool.or_false, Bool.true_or, Bool.false_or, beq_self_eq_true, bne_self_eq_false, List.set_cons_zero, List.set_cons_succ, evT, evTs, evE, evO, evA, evB, evP, evF, evI, evW, bind_ok, bind_st, ofO_s, c_val, c_han, g_0, g_s, sole_v, sole_h, take_v, ow_non, ow_bl, ow_int, ow_str, ow_tup, ow_own, ow_fro, ow_ext, ow_ty, ow_fn, ow_dic, b_add, b_sub, b_mod, b_div, b_mul, n_non, n_bl, n_int, n_str, n_tup, n_lst, n_dic, m_is, m_isnot, m_lt, m_le, m_gt, m_ge, m_eq, m_ne, q_int, q_non1, q_non2, q_bl, t_bl, t_int, t_non, t_tup, t_lst, s_and, s_or, plainOp, gOf_N, gOf_bor, sub_N, name_eq, asgN_eq, call_eq, lend_nil, lend_val, lend_han, gb_nil, gb_none, gb_some, noStar, Bool.false_eq_true, if_false, if_true, Bool.not_true, Bool.not_false, fin, outsOf, decide_true, decide_false, Bool.true_and, Bool.and_true, Bool.false_and, Bool.and_false, reduceCtorEq, Option.map_some, frz, frz_int, contents_nil, contents_cons, bl_int, bl_bl, bl_lenT, bl_lenL, bl_abs, bl_max, bl_min, bl_listT, bl_listL, bl_tupT, bl_tupL, bl_any, bl_all, is_int, is_ty, is_non_int, is_non_bool, is_non_tuple, is_non_list, is_non_str, is_non_dict, is_bl_int, is_bl_bool, is_bl_tuple, is_bl_list, is_bl_str, is_bl_dict, is_int_bool, is_int_tuple, is_int_list, is_int_str, is_int_dict, is_str_int, is_str_bool, is_str_tuple, is_str_list, is_str_str, is_str_dict, is_tup_int, is_tup_bool, is_tup_tuple, is_tup_list, is_tup_str, is_tup_dict, is_lst_int, is_lst_bool, is_lst_tuple, is_lst_list, is_lst_str, is_lst_dict, is_dic_int, is_dic_bool, is_dic_tuple, is_dic_list, is_dic_str, is_dic_dict, l__law_roll_one, v__law_roll_one, o__law_roll_one, l__law_roll_two, v__law_roll_two, o__law_roll_two, l__law_roll_found, v__law_roll_found, o__law_roll_found, l__law_roll_dice, v__law_roll_dice, o__law_roll_dice, l__law_roll_total, v__law_roll_total, o__law_roll_total, l__law_roll_int, w__law_roll_int, k_int, g_int, f_int, b_int, y_int, r_int, e_int, *])
local macro_rules | `(tactic| walk_at "go _law_common") => `(tactic| (rw [lev_eq (f := d__law_common) (by rfl) rfl, en__law_common]; have hb : defBody d__law_common.st = defBody d__law_common.st := rfl; (conv at hb => (rhs; whnf)); rw [hb]; clear hb))
local macro_rules | `(tactic| walk_at "ev _law_common") => `(tactic| simp (decide := true) only [evSs, evS, ownOf, List.filterMap_cons, List.filterMap_nil, List.map_cons, List.map_nil, Option.map_some, Option.map_none, asgT, asgI, pp_1, List.nil_append, lenOk2, frzL_nil, frzL_cons, frz_tup, Int.mul_one, plainIx, intE, itE_t, itE_l, item_0, item_1, item_2, li_0, li_1, li_2, asgXs, takes_nil, takes_cons, swap, namesOn, headLine, Expr.pos, ed2, ed3, foldedForSure, constantsAlone, List.all_cons, List.all_nil, List.length_cons, List.length_nil, Nat.reduceAdd, Nat.reduceBEq, Nat.reduceBNe, Bool.or_true, Bool.or_false, Bool.true_or, Bool.false_or, beq_self_eq_true, bne_self_eq_false, List.set_cons_zero, List.set_cons_succ, evT, evTs, evE, evO, evA, evB, evP, evF, evI, evW, bind_ok, bind_st, ofO_s, c_val, c_han, g_0, g_s, sole_v, sole_h, take_v, ow_non, ow_bl, ow_int, ow_str, ow_tup, ow_own, ow_fro, ow_ext, ow_ty, ow_fn, ow_dic, b_add, b_sub, b_mod, b_div, b_mul, n_non, n_bl, n_int, n_str, n_tup, n_lst, n_dic, m_is, m_isnot, m_lt, m_le, m_gt, m_ge, m_eq, m_ne, q_int, q_non1, q_non2, q_bl, t_bl, t_int, t_non, t_tup, t_lst, s_and, s_or, plainOp, gOf_N, gOf_bor, sub_N, name_eq, asgN_eq, call_eq, lend_nil, lend_val, lend_han, gb_nil, gb_none, gb_some, noStar, Bool.false_eq_true, if_false, if_true, Bool.not_true, Bool.not_false, fin, outsOf, decide_true, decide_false, Bool.true_and, Bool.and_true, Bool.false_and, Bool.and_false, reduceCtorEq, Option.map_some, frz, frz_int, contents_nil, contents_cons, bl_int, bl_bl, bl_lenT, bl_lenL, bl_abs, bl_max, bl_min, bl_listT, bl_listL, bl_tupT, bl_tupL, bl_any, bl_all, is_int, is_ty, is_non_int, is_non_bool, is_non_tuple, is_non_list, is_non_str, is_non_dict, is_bl_int, is_bl_bool, is_bl_tuple, is_bl_list, is_bl_str, is_bl_dict, is_int_bool, is_int_tuple, is_int_list, is_int_str, is_int_dict, is_str_int, is_str_bool, is_str_tuple, is_str_list, is_str_str, is_str_dict, is_tup_int, is_tup_bool, is_tup_tuple, is_tup_list, is_tup_str, is_tup_dict, is_lst_int, is_lst_bool, is_lst_tuple, is_lst_list, is_lst_str, is_lst_dict, is_dic_int, is_dic_bool, is_dic_tuple, is_dic_list, is_dic_str, is_dic_dict, l__law_common_one, v__law_common_one, o__law_common_one, l__law_common_other, v__law_common_other, o__law_common_other, l__law_common_abs, w__law_common_abs, l__law_common_int, w__law_common_int, d__law_common_one, d__law_common_other, x__law_common_one_other, k_abs, g_abs, f_abs, b_abs, r_abs, e_abs, k_int, g_int, f_int, b_int, y_int, r_int, e_int, *])
local macro_rules | `(tactic| walk_at "go _law_share") => `(tactic| (rw [lev_eq (f := d__law_share) (by rfl) rfl, en__law_share]; have hb : defBody d__law_share.st = defBody d__law_share.st := rfl; (conv at hb => (rhs; whnf)); rw [hb]; clear hb))
local macro_rules | `(tactic| walk_at "ev _law_share") => `(tactic| simp (decide := true) only [evSs, evS, ownOf, List.filterMap_cons, List.filterMap_nil, List.map_cons, List.map_nil, Option.map_some, Option.map_none, asgT, asgI, pp_1, List.nil_append, lenOk2, frzL_nil, frzL_cons, frz_tup, Int.mul_one, plainIx, intE, itE_t, itE_l, item_0, item_1, item_2, li_0, li_1, li_2, asgXs, takes_nil, takes_cons, swap, namesOn, headLine, Expr.pos, ed2, ed3, foldedForSure, constantsAlone, List.all_cons, List.all_nil, List.length_cons, List.length_nil, Nat.reduceAdd, Nat.reduceBEq, Nat.reduceBNe, Bool.or_true, Bool.or_false, Bool.true_or, Bool.false_or, beq_self_eq_true, bne_self_eq_false, List.set_cons_zero, List.set_cons_succ, evT, evTs, evE, evO, evA, evB, evP, evF, evI, evW, bind_ok, bind_st, ofO_s, c_val, c_han, g_0, g_s, sole_v, sole_h, take_v, ow_non, ow_bl, ow_int, ow_str, ow_tup, ow_own, ow_fro, ow_ext, ow_ty, ow_fn, ow_dic, b_add, b_sub, b_mod, b_div, b_mul, n_non, n_bl, n_int, n_str, n_tup, n_lst, n_dic, m_is, m_isnot, m_lt, m_le, m_gt, m_ge, m_eq, m_ne, q_int, q_non1, q_non2, q_bl, t_bl, t_int, t_non, t_tup, t_lst, s_and, s_or, plainOp, gOf_N, gOf_bor, sub_N, name_eq, asgN_eq, call_eq, lend_nil, lend_val, lend_han, gb_nil, gb_none, gb_some, noStar, Bool.false_eq_true, if_false, if_true, Bool.not_true, Bool.not_false, fin, outsOf, decide_true, decide_false, Bool.true_and, Bool.and_true, Bool.false_and, Bool.and_false, reduceCtorEq, Option.map_some, frz, frz_int, contents_nil, contents_cons, bl_int, bl_bl, bl_lenT, bl_lenL, bl_abs, bl_max, bl_min, bl_listT, bl_listL, bl_tupT, bl_tupL, bl_any, bl_all, is_int, is_ty, is_non_int, is_non_bool, is_non_tuple, is_non_list, is_non_str, is_non_dict, is_bl_int, is_bl_bool, is_bl_tuple, is_bl_list, is_bl_str, is_bl_dict, is_int_bool, is_int_tuple, is_int_list, is_int_str, is_int_dict, is_str_int, is_str_bool, is_str_tuple, is_str_list, is_str_str, is_str_dict, is_tup_int, is_tup_bool, is_tup_tuple, is_tup_list, is_tup_str, is_tup_dict, is_lst_int, is_lst_bool, is_lst_tuple, is_lst_list, is_lst_str, is_lst_dict, is_dic_int, is_dic_bool, is_dic_tuple, is_dic_list, is_dic_str, is_dic_dict, l__law_share_common, v__law_share_common, o__law_share_common, l__law_share__law_common, w__law_share__law_common, l__law_share_top, v__law_share_top, o__law_share_top, l__law_share_bottom, v__law_share_bottom, o__law_share_bottom, l__law_share_int, w__law_share_int, k__law_common, g__law_common, r__law_common, e__law_common, k_int, g_int, f_int, b_int, y_int, r_int, e_int, *])
local macro_rules | `(tactic| walk_at "go _law_sum") => `(tactic| (rw [lev_eq (f := d__law_sum) (by rfl) rfl, en__law_sum]; have hb : defBody d__law_sum.st = defBody d__law_sum.st := rfl; (conv at hb => (rhs; whnf)); rw [hb]; clear hb))
local macro_rules | `(tactic| walk_at "ev _law_sum") => `(tactic| simp (decide := true) only [evSs, evS, ownOf, List.filterMap_cons, List.filterMap_nil, List.map_cons, List.map_nil, Option.map_some, Option.map_none, asgT, asgI, pp_1, List.nil_append, lenOk2, frzL_nil, frzL_cons, frz_tup, Int.mul_one, plainIx, intE, itE_t, itE_l, item_0, item_1, item_2, li_0, li_1, li_2, asgXs, takes_nil, takes_cons, swap, namesOn, headLine, Expr.pos, ed2, ed3, foldedForSure, constantsAlone, List.all_cons, List.all_nil, List.length_cons, List.length_nil, Nat.reduceAdd, Nat.reduceBEq, Nat.reduceBNe, Bool.or_true, Bool.or_false, Bool.true_or, Bool.false_or, beq_self_eq_true, bne_self_eq_false, List.set_cons_zero, List.set_cons_succ, evT, evTs, evE, evO, evA, evB, evP, evF, evI, evW, bind_ok, bind_st, ofO_s, c_val, c_han, g_0, g_s, sole_v, sole_h, take_v, ow_non, ow_bl, ow_int, ow_str, ow_tup, ow_own, ow_fro, ow_ext, ow_ty, ow_fn, ow_dic, b_add, b_sub, b_mod, b_div, b_mul, n_non, n_bl, n_int, n_str, n_tup, n_lst, n_dic, m_is, m_isnot, m_lt, m_le, m_gt, m_ge, m_eq, m_ne, q_int, q_non1, q_non2, q_bl, t_bl, t_int, t_non, t_tup, t_lst, s_and, s_or, plainOp, gOf_N, gOf_bor, sub_N, name_eq, asgN_eq, call_eq, lend_nil, lend_val, lend_han, gb_nil, gb_none, gb_some, noStar, Bool.false_eq_true, if_false, if_true, Bool.not_true, Bool.not_false, fin, outsOf, decide_true, decide_false, Bool.true_and, Bool.and_true, Bool.false_and, Bool.and_false, reduceCtorEq, Option.map_some, frz, frz_int, contents_nil, contents_cons, bl_int, bl_bl, bl_lenT, bl_lenL, bl_abs, bl_max, bl_min, bl_listT, bl_listL, bl_tupT, bl_tupL, bl_any, bl_all, is_int, is_ty, is_non_int, is_non_bool, is_non_tuple, is_non_list, is_non_str, is_non_dict, is_bl_int, is_bl_bool, is_bl_tuple, is_bl_list, is_bl_str, is_bl_dict, is_int_bool, is_int_tuple, is_int_list, is_int_str, is_int_dict, is_str_int, is_str_bool, is_str_tuple, is_str_list, is_str_str, is_str_dict, is_tup_int, is_tup_bool, is_tup_tuple, is_tup_list, is_tup_str, is_tup_dict, is_lst_int, is_lst_bool, is_lst_tuple, is_lst_list, is_lst_str, is_lst_dict, is_dic_int, is_dic_bool, is_dic_tuple, is_dic_list, is_dic_str, is_dic_dict, l__law_sum_one, v__law_sum_one, o__law_sum_one, l__law_sum_other, v__law_sum_other, o__law_sum_other, l__law_sum_int, w__law_sum_int, k_int, g_int, f_int, b_int, y_int, r_int, e_int, *])
local macro_rules | `(tactic| walk_at "go _law_tight") => `(tactic| (rw [lev_eq (f := d__law_tight) (by rfl) rfl, en__law_tight]; have hb : defBody d__law_tight.st = defBody d__law_tight.st := rfl; (conv at hb => (rhs; whnf)); rw [hb]; clear hb))
local macro_rules | `(tactic| walk_at "ev _law_tight") => `(tactic| simp (decide := true) only [evSs, evS, ownOf, List.filterMap_cons, List.filterMap_nil, List.map_cons, List.map_nil, Option.map_some, Option.map_none, asgT, asgI, pp_1, List.nil_append, lenOk2, frzL_nil, frzL_cons, frz_tup, Int.mul_one, plainIx, intE, itE_t, itE_l, item_0, item_1, item_2, li_0, li_1, li_2, asgXs, takes_nil, takes_cons, swap, namesOn, headLine, Expr.pos, ed2, ed3, foldedForSure, constantsAlone, List.all_cons, List.all_nil, List.length_cons, List.length_nil, Nat.reduceAdd, Nat.reduceBEq, Nat.reduceBNe, Bool.or_true, Bool.or_false, Bool.true_or, Bool.false_or, beq_self_eq_true, bne_self_eq_false, List.set_cons_zero, List.set_cons_succ, evT, evTs, evE, evO, evA, evB, evP, evF, evI, evW, bind_ok, bind_st, ofO_s, c_val, c_han, g_0, g_s, sole_v, sole_h, take_v, ow_non, ow_bl, ow_int, ow_str, ow_tup, ow_own, ow_fro, ow_ext, ow_ty, ow_fn, ow_dic, b_add, b_sub, b_mod, b_div, b_mul, n_non, n_bl, n_int, n_str, n_tup, n_lst, n_dic, m_is, m_isnot, m_lt, m_le, m_gt, m_ge, m_eq, m_ne, q_int, q_non1, q_non2, q_bl, t_bl, t_int, t_non, t_tup, t_lst, s_and, s_or, plainOp, gOf_N, gOf_bor, sub_N, name_eq, asgN_eq, call_eq, lend_nil, lend_val, lend_han, gb_nil, gb_none, gb_some, noStar, Bool.false_eq_true, if_false, if_true, Bool.not_true, Bool.not_false, fin, outsOf, decide_true, decide_false, Bool.true_and, Bool.and_true, Bool.false_and, Bool.and_false, reduceCtorEq, Option.map_some, frz, frz_int, contents_nil, contents_cons, bl_int, bl_bl, bl_lenT, bl_lenL, bl_abs, bl_max, bl_min, bl_listT, bl_listL, bl_tupT, bl_tupL, bl_any, bl_all, is_int, is_ty, is_non_int, is_non_bool, is_non_tuple, is_non_list, is_non_str, is_non_dict, is_bl_int, is_bl_bool, is_bl_tuple, is_bl_list, is_bl_str, is_bl_dict, is_int_bool, is_int_tuple, is_int_list, is_int_str, is_int_dict, is_str_int, is_str_bool, is_str_tuple, is_str_list, is_str_str, is_str_dict, is_tup_int, is_tup_bool, is_tup_tuple, is_tup_list, is_tup_str, is_tup_dict, is_lst_int, is_lst_bool, is_lst_tuple, is_lst_list, is_lst_str, is_lst_dict, is_dic_int, is_dic_bool, is_dic_tuple, is_dic_list, is_dic_str, is_dic_dict, l__law_tight_min, w__law_tight_min, l__law_tight_one, v__law_tight_one, o__law_tight_one, l__law_tight_other, v__law_tight_other, o__law_tight_other, k_min, g_min, f_min, b_min, r_min, e_min, *])
local macro_rules | `(tactic| walk_at "go _law_holds") => `(tactic| (rw [lev_eq (f := d__law_holds) (by rfl) rfl, en__law_holds]; have hb : defBody d__law_holds.st = defBody d__law_holds.st := rfl; (conv at hb => (rhs; whnf)); rw [hb]; clear hb))
local macro_rules | `(tactic| walk_at "ev _law_holds") => `(tactic| simp (decide := true) only [evSs, evS, ownOf, List.filterMap_cons, List.filterMap_nil, List.map_cons, List.map_nil, Option.map_some, Option.map_none, asgT, asgI, pp_1, List.nil_append, lenOk2, frzL_nil, frzL_cons, frz_tup, Int.mul_one, plainIx, intE, itE_t, itE_l, item_0, item_1, item_2, li_0, li_1, li_2, asgXs, takes_nil, takes_cons, swap, namesOn, headLine, Expr.pos, ed2, ed3, foldedForSure, constantsAlone, List.all_cons, List.all_nil, List.length_cons, List.length_nil, Nat.reduceAdd, Nat.reduceBEq, Nat.reduceBNe, Bool.or_true, Bool.or_false, Bool.true_or, Bool.false_or, beq_self_eq_true, bne_self_eq_false, List.set_cons_zero, List.set_cons_succ, evT, evTs, evE, evO, evA, evB, evP, evF, evI, evW, bind_ok, bind_st, ofO_s, c_val, c_han, g_0, g_s, sole_v, sole_h, take_v, ow_non, ow_bl, ow_int, ow_str, ow_tup, ow_own, ow_fro, ow_ext, ow_ty, ow_fn, ow_dic, b_add, b_sub, b_mod, b_div, b_mul, n_non, n_bl, n_int, n_str, n_tup, n_lst, n_dic, m_is, m_isnot, m_lt, m_le, m_gt, m_ge, m_eq, m_ne, q_int, q_non1, q_non2, q_bl, t_bl, t_int, t_non, t_tup, t_lst, s_and, s_or, plainOp, gOf_N, gOf_bor, sub_N, name_eq, asgN_eq, call_eq, lend_nil, lend_val, lend_han, gb_nil, gb_none, gb_some, noStar, Bool.false_eq_true, if_false, if_true, Bool.not_true, Bool.not_false, fin, outsOf, decide_true, decide_false, Bool.true_and, Bool.and_true, Bool.false_and, Bool.and_false, reduceCtorEq, Option.map_some, frz, frz_int, contents_nil, contents_cons, bl_int, bl_bl, bl_lenT, bl_lenL, bl_abs, bl_max, bl_min, bl_listT, bl_listL, bl_tupT, bl_tupL, bl_any, bl_all, is_int, is_ty, is_non_int, is_non_bool, is_non_tuple, is_non_list, is_non_str, is_non_dict, is_bl_int, is_bl_bool, is_bl_tuple, is_bl_list, is_bl_str, is_bl_dict, is_int_bool, is_int_tuple, is_int_list, is_int_str, is_int_dict, is_str_int, is_str_bool, is_str_tuple, is_str_list, is_str_str, is_str_dict, is_tup_int, is_tup_bool, is_tup_tuple, is_tup_list, is_tup_str, is_tup_dict, is_lst_int, is_lst_bool, is_lst_tuple, is_lst_list, is_lst_str, is_lst_dict, is_dic_int, is_dic_bool, is_dic_tuple, is_dic_list, is_dic_str, is_dic_dict, l__law_holds_bound, v__law_holds_bound, o__law_holds_bound, l__law_holds_difference, v__law_holds_difference, o__law_holds_difference, *])
/-- a bound of a table: nothing or a whole number -/
def oD : Option Int → D
  | none => .non
  | some i => .int i
def addB (i j : Int) : Int := i + j + (if i % 2 = 1 ∧ j % 2 = 1 then 1 else 0)
def addO : Option Int → Option Int → Option Int
  | some i, some j => some (addB i j)
  | _, _ => none
def lessO : Option Int → Option Int → Bool
  | some i, some j => decide (i < j)
  | some _, none => true
  | none, _ => false
def tightO (x y : Option Int) : Option Int := if lessO x y then x else y
def isW : D → Bool
  | .int _ => true
  | _ => false
def isB : D → Bool
  | .int _ => true
  | .non => true
  | _ => false
def back1 (d : D) : Option D := if owned d then some d else none
theorem two_pos : (0 : Int) < 2 := by decide
theorem E_is_whole (k : Nat) (d : D) (h : (tyOf d).isSome = true) : lev cM cT (k + 1) "is_whole" [d] = .ok (.bl (isW d), [back1 d]) := by
  cases d with
  | lst m ds => cases m <;> kernel_rfl
  | dic m ks ds => cases m <;> kernel_rfl
  | fn x => cases h
  | ty n => cases h
  | _ => kernel_rfl
theorem E_law_is_whole (k : Nat) (d : D) (h : (tyOf d).isSome = true) : lev cM cT (k + 1) "_law_is_whole" [d] = .ok (.bl (isW d), [back1 d]) := by
  cases d with
  | lst m ds => cases m <;> kernel_rfl
  | dic m ks ds => cases m <;> kernel_rfl
  | fn x => cases h
  | ty n => cases h
  | _ => kernel_rfl
theorem E_is_bound_marks (k : Nat) (d : D) (h : (tyOf d).isSome = true) : lev cM cT (k + 2) "is_bound_marks" [d] = .ok (.bl (isB d), [back1 d]) := by
  cases d with
  | lst m ds => cases m <;> kernel_rfl
  | dic m ks ds => cases m <;> kernel_rfl
  | fn x => cases h
  | ty n => cases h
  | _ => kernel_rfl
theorem E_is_bound_tables (k : Nat) (d : D) (h : (tyOf d).isSome = true) : lev cM cT (k + 3) "is_bound_tables" [d] = .ok (.bl (isB d), [back1 d]) := by
  cases d with
  | lst m ds => cases m <;> kernel_rfl
  | dic m ks ds => cases m <;> kernel_rfl
  | fn x => cases h
  | ty n => cases h
  | _ => kernel_rfl
theorem E_add_ii (k : Nat) (i j : Int) : lev cM cT (k + 1) "add_bounds_marks" [.int i, .int j] = .ok (.int (addB i j), [none, none]) := by
  walk_at "go add_bounds_marks"
  have h2 := two_pos
  walk_at "ev add_bounds_marks"
  unfold addB
  by_cases h3 : i % 2 = 1 <;> by_cases h4 : j % 2 = 1 <;> walk_at "ev add_bounds_marks" <;> simp
theorem E_add_bounds_marks (k : Nat) (x y : Option Int) : lev cM cT (k + 1) "add_bounds_marks" [oD x, oD y] = .ok (oD (addO x y), [none, none]) := by
  cases x with
  | none => cases y <;> kernel_rfl
  | some i => cases y with
    | none => kernel_rfl
    | some j => exact E_add_ii k i j
theorem E_law_sum_ii (k : Nat) (i j : Int) : lev cM cT (k + 1) "_law_sum" [.int i, .int j] = .ok (.int (addB i j), [none, none]) := by
  walk_at "go _law_sum"
  have h2 := two_pos
  walk_at "ev _law_sum"
  unfold addB
  by_cases h3 : i % 2 = 1 <;> by_cases h4 : j % 2 = 1 <;> walk_at "ev _law_sum" <;> simp
theorem E_law_sum (k : Nat) (x y : Option Int) : lev cM cT (k + 1) "_law_sum" [oD x, oD y] = .ok (oD (addO x y), [none, none]) := by
  cases x with
  | none => cases y <;> kernel_rfl
  | some i => cases y with
    | none => kernel_rfl
    | some j => exact E_law_sum_ii k i j
theorem E_is_tighter (k : Nat) (x y : Option Int) : lev cM cT (k + 1) "is_tighter" [oD x, oD y] = .ok (.bl (lessO x y), [none, none]) := by
  cases x <;> cases y <;> kernel_rfl
theorem E_tight (k : Nat) (x y : Option Int) : lev cM cT (k + 2) "tight" [oD x, oD y] = .ok (oD (tightO x y), [none, none]) := by
  walk_at "go tight"
  have h1 := fun (k : Nat) (x y : Option Int) => E_is_tighter k x y
  have ho : ∀ x, owned (oD x) = false := fun x => by cases x <;> rfl
  have hf : ∀ x, frz (oD x) = oD x := fun x => by cases x <;> rfl
  walk_at "ev tight"
  unfold tightO
  cases lessO x y <;> walk_at "ev tight"
theorem E_law_tight (k : Nat) (x y : Option Int) : lev cM cT (k + 1) "_law_tight" [oD x, oD y] = .ok (oD (tightO x y), [none, none]) := by
  cases x with
  | none => cases y <;> kernel_rfl
  | some i => cases y with
    | none => kernel_rfl
    | some j =>
      walk_at "go _law_tight"
      simp only [oD]
      walk_at "ev _law_tight"
      by_cases h : i < j
      · have h2 : ¬ j < i := by omega
        simp [tightO, lessO, h, h2]
      · by_cases h2 : j < i
        · simp [tightO, lessO, h, h2]
        · have : i = j := by omega
          subst this
          simp [tightO, lessO]
/-! ### fractions -/
/-- small enough to be multiplied -/
def sm (i : Int) : Prop := i.natAbs < 2 ^ 2000
theorem log_sm {n : Nat} (h : n < 2 ^ 2000) : n.log2 < 2000 := by
  by_cases h0 : n = 0
  · subst h0; decide
  · exact (Nat.log2_lt h0).mpr h
theorem mul_sm {i j : Int} (hi : sm i) (hj : sm j) : mulOk i j = true := by
  have h1 := log_sm hi
  have h2 := log_sm hj
  unfold mulOk
  rw [decide_eq_true_eq]
  have : big = 1000000 := rfl
  omega
theorem sm_nat {i : Int} (n : Nat) (h : i.natAbs ≤ n) (hn : n < 2 ^ 60) : sm i := by
  unfold sm
  have : (2 : Nat) ^ 60 ≤ 2 ^ 2000 := Nat.pow_le_pow_right (by decide) (by decide)
  omega
theorem sm2 : sm 2 := sm_nat 2 (by decide) (by decide)
def holdsM (n d : Int) : Option Int → Bool
  | none => true
  | some b => if b % 2 = 0 then decide (2 * n ≤ b * d) else decide (2 * n < (b + 1) * d)
theorem E_law_holds (k : Nat) (n d : Int) (x : Option Int) (hn : sm n) (hd : sm d) (hx : ∀ b, x = some b → sm b ∧ sm (b + 1)) : lev cM cT (k + 1) "_law_holds" [.tup [.int n, .int d], oD x] = .ok (.bl (holdsM n d x), [none, none]) := by
  cases x with
  | none => kernel_rfl
  | some b =>
    obtain ⟨h1, h2⟩ := hx b rfl
    have m1 := mul_sm sm2 hn
    have m2 := mul_sm h1 hd
    have m3 := mul_sm h2 hd
    have hp := two_pos
    clear hx h1 h2 hn hd
    walk_at "go _law_holds"
    simp only [oD, holdsM]
    walk_at "ev _law_holds"
    by_cases h3 : b % 2 = 0 <;> walk_at "ev _law_holds"
/-- the greatest common divisor, as the law reckons it -/
def gcdL : Nat → Int → Int → Option Int
  | 0, _, _ => none
  | n + 1, i, j => if 0 < j then gcdL n j (i % j) else some i
def absI (i : Int) : Int := if i < 0 then -i else i
theorem bor_ii (i j : Int) : borOf [D.int i, D.int j] = [] := rfl
theorem whileL_s {test : En → R (Bool × En)} {body : En → R Fl} {n : Nat} {e : En} : whileL test body (n + 1) e = (test e).bind fun (b, e1) => if b then (body e1).bind fun
    | .nx e2 => whileL test body n e2
    | .ct e2 => whileL test body n e2
    | .bk e2 => .ok (.nx e2)
    | .rt x e2 => .ok (.rt x e2)
    else .ok (.nx e1) := rfl
theorem bind_of {α β : Type} {x : R α} {f : α → R β} {y : R β} (h : ∃ a, x = .ok a ∧ f a = y) : x.bind f = y := by
  obtain ⟨a, h1, h2⟩ := h
  rw [h1]; exact h2
theorem gcd_loop {test : En → R (Bool × En)} {body : En → R Fl} (ht : ∀ i j : Int, test [some (.int i), some (.int j)] = .ok (decide (0 < j), [some (.int i), some (.int j)]))
    (hb : ∀ i j : Int, 0 < j → body [some (.int i), some (.int j)] = .ok (.nx [some (.int j), some (.int (i % j))])) : ∀ (n : Nat) (i j c : Int), gcdL n i j = some c → ∃ j', whileL test body n [some (.int i), some (.int j)] = .ok (.nx [some (.int c), some (.int j')])
  | 0, i, j, c, h => by simp [gcdL] at h
  | n + 1, i, j, c, h => by
    rw [whileL_s, ht, bind_ok]
    unfold gcdL at h
    by_cases hj : 0 < j
    · rw [if_pos hj] at h
      simp only [hj, decide_true, if_true, hb i j hj, bind_ok]
      exact gcd_loop ht hb n j (i % j) c h
    · rw [if_neg hj] at h
      cases h
      simp only [hj, decide_false, Bool.false_eq_true, if_false]
      exact ⟨j, rfl⟩
theorem E_law_common (k : Nat) (i j c : Int) (h : gcdL (2 ^ 32) (absI i) (absI j) = some c) : lev cM cT (k + 1) "_law_common" [.int i, .int j] = .ok (.int c, [none, none]) := by
  walk_at "go _law_common"
  have hb := bor_ii i j
  have h0 : (0 : Nat) < 2 := by decide
  have h1 : (1 : Nat) < 2 := by decide
  have hc : ∀ n : Nat, ([] : List Nat).contains n = false := fun _ => rfl
  simp only [hb]
  walk_at "ev _law_common"
  simp only [R.bind_assoc]
  refine bind_of (Exists.elim (gcd_loop ?_ ?_ _ _ _ _ h) fun j' hw => ⟨_, hw, ?_⟩)
  · intro i j
    walk_at "ev _law_common"
  · intro i j hj
    clear h hb
    walk_at "ev _law_common"
  · clear h hb
    walk_at "ev _law_common"
theorem sm1 : sm 1 := sm_nat 1 (by decide) (by decide)
theorem div_sm {c : Int} (h0 : 0 < c) (h : sm c) : divOk c = true := by
  have := log_sm h
  simp only [divOk, Bool.and_eq_true, decide_eq_true_eq]
  exact ⟨h0, by omega⟩
theorem E_law_share (k : Nat) (i j c : Int) (h : gcdL (2 ^ 32) (absI i) (absI j) = some c) (hj : 0 < j) (h0 : 0 < c) (hs : sm c) : lev cM cT (k + 2) "_law_share" [.int i, .int j] = .ok (.tup [.int (i / c), .int (j / c)], [none, none]) := by
  walk_at "go _law_share"
  have hb := bor_ii i j
  have hl := fun k => E_law_common k i j c h
  have hc : ∀ n : Nat, ([] : List Nat).contains n = false := fun _ => rfl
  have m1 := mul_sm hs sm1
  have m2 := div_sm h0 hs
  have h3 : (2 : Nat) < 3 := by decide
  clear h hs h0
  simp only [hb]
  clear hb
  walk_at "ev _law_share"
/-- a draw: the found number and the dice behind it -/
def rollM (a b c n : Int) : Int × Int × Int × Int := if 0 < a then (a % n, a / n, b, c) else
  let o := (b + 15485863 * (c + 1)) % 2305843009213693951
  (((o * o + 211 * (c + 1)) % 2305843009213693921 * 6700417 + o) / 65536 % n, a, b, c + 1)
def dI (a b c : Int) : D := .lst .own [.int a, .int b, .int c]
theorem E_law_roll (k : Nat) (a b c n : Int) (h0 : 0 < n) (hn : sm n) (hc : sm (c + 1)) : lev cM cT (k + 2) "_law_roll" [dI a b c, .int n] = .ok (.int (rollM a b c n).1, [some (dI (rollM a b c n).2.1 (rollM a b c n).2.2.1 (rollM a b c n).2.2.2), none]) := by
  unfold dI
  walk_at "go _law_roll"
  have hb : borOf [.lst .own [D.int a, D.int b, D.int c], D.int n] = [0] := rfl
  simp only [hb]
  clear hb
  have m1 := div_sm h0 hn
  have c2 : ([0] : List Nat).contains 2 = false := by decide
  have c3 : ([0] : List Nat).contains 3 = false := by decide
  have c4 : ([0] : List Nat).contains 4 = false := by decide
  have n2 : (2 : Nat) < 5 := by decide
  have n3 : (3 : Nat) < 5 := by decide
  have n4 : (4 : Nat) < 5 := by decide
  have p1 : (0 : Int) < 2305843009213693951 := by decide
  have p2 : (0 : Int) < 2305843009213693921 := by decide
  have d1 : divOk 65536 = true := by decide
  have m2 : mulOk 15485863 (c + 1) = true := mul_sm (sm_nat 15485863 (by decide) (by decide)) hc
  have m3 : mulOk 211 (c + 1) = true := mul_sm (sm_nat 211 (by decide) (by decide)) hc
  have so : ∀ x : Int, sm (x % 2305843009213693951) := fun x => by
    have h1 := Int.emod_nonneg x (show (2305843009213693951 : Int) ≠ 0 by decide)
    have h2 := Int.emod_lt_of_pos x p1
    have : (2 : Nat) ^ 64 ≤ 2 ^ 2000 := Nat.pow_le_pow_right (by decide) (by decide)
    unfold sm; omega
  have so2 : ∀ x : Int, sm (x % 2305843009213693921) := fun x => by
    have h1 := Int.emod_nonneg x (show (2305843009213693921 : Int) ≠ 0 by decide)
    have h2 := Int.emod_lt_of_pos x p2
    have : (2 : Nat) ^ 64 ≤ 2 ^ 2000 := Nat.pow_le_pow_right (by decide) (by decide)
    unfold sm; omega
  have m4 : ∀ x y : Int, mulOk (x % 2305843009213693951) (y % 2305843009213693951) = true := fun x y => mul_sm (so x) (so y)
  have m5 : ∀ x : Int, mulOk (x % 2305843009213693921) 6700417 = true := fun x => mul_sm (so2 x) (sm_nat 6700417 (by decide) (by decide))
  clear hn hc so so2
  walk_at "ev _law_roll"
  by_cases h : 0 < a
  · simp only [rollM, h, if_true]
    walk_at "ev _law_roll"
  · simp only [rollM, h, if_false]
    walk_at "ev _law_roll"
end K19

set_option Elab.async false
set_option linter.all false
set_option maxRecDepth 100000
set_option maxHeartbeats 4000000
namespace K19
open PySem L2 Ev
local macro_rules | `(tactic| walk_at "go _law_dice") => `(tactic| (rw [lev_eq (f := d__law_dice) (by rfl) rfl, en__law_dice]; have hb : defBody d__law_dice.st = defBody d__law_dice.st := rfl; (conv at hb => (rhs; whnf)); rw [hb]; clear hb))
local macro_rules | `(tactic| walk_at "ev _law_dice") => `(tactic| simp (decide := true) only [evSs, evS, ownOf, List.filterMap_cons, List.filterMap_nil, List.map_cons, List.map_nil, Option.map_some, Option.map_none, asgT, asgI, pp_1, List.nil_append, lenOk2, frzL_nil, frzL_cons, frz_tup, Int.mul_one, plainIx, intE, itE_t, itE_l, item_0, item_1, item_2, li_0, li_1, li_2, asgXs, takes_nil, takes_cons, swap, namesOn, headLine, Expr.pos, ed2, ed3, foldedForSure, constantsAlone, List.all_cons, List.all_nil, List.length_cons, List.length_nil, Nat.reduceAdd, Nat.reduceBEq, Nat.reduceBNe, Bool.or_true, Bool.or_false, Bool.true_or, Bool.false_or, beq_self_eq_true, bne_self_eq_false, List.set_cons_zero, List.set_cons_succ, evT, evTs, evE, evO, evA, evB, evP, evF, evI, evW, bind_ok, bind_st, ofO_s, c_val, c_han, g_0, g_s, sole_v, sole_h, take_v, ow_non, ow_bl, ow_int, ow_str, ow_tup, ow_own, ow_fro, ow_ext, ow_ty, ow_fn, ow_dic, b_add, b_sub, b_mod, b_div, b_mul, n_non, n_bl, n_int, n_str, n_tup, n_lst, n_dic, m_is, m_isnot, m_lt, m_le, m_gt, m_ge, m_eq, m_ne, q_int, q_non1, q_non2, q_bl, t_bl, t_int, t_non, t_tup, t_lst, s_and, s_or, plainOp, gOf_N, gOf_bor, sub_N, name_eq, asgN_eq, call_eq, lend_nil, lend_val, lend_han, gb_nil, gb_none, gb_some, noStar, Bool.false_eq_true, if_false, if_true, Bool.not_true, Bool.not_false, fin, outsOf, decide_true, decide_false, Bool.true_and, Bool.and_true, Bool.false_and, Bool.and_false, reduceCtorEq, Option.map_some, frz, frz_int, contents_nil, contents_cons, bl_int, bl_bl, bl_lenT, bl_lenL, bl_abs, bl_max, bl_min, bl_listT, bl_listL, bl_tupT, bl_tupL, bl_any, bl_all, is_int, is_ty, is_non_int, is_non_bool, is_non_tuple, is_non_list, is_non_str, is_non_dict, is_bl_int, is_bl_bool, is_bl_tuple, is_bl_list, is_bl_str, is_bl_dict, is_int_bool, is_int_tuple, is_int_list, is_int_str, is_int_dict, is_str_int, is_str_bool, is_str_tuple, is_str_list, is_str_str, is_str_dict, is_tup_int, is_tup_bool, is_tup_tuple, is_tup_list, is_tup_str, is_tup_dict, is_lst_int, is_lst_bool, is_lst_tuple, is_lst_list, is_lst_str, is_lst_dict, is_dic_int, is_dic_bool, is_dic_tuple, is_dic_list, is_dic_str, is_dic_dict, l__law_dice_cell, v__law_dice_cell, o__law_dice_cell, l__law_dice_great, v__law_dice_great, o__law_dice_great, l__law_dice_spot, v__law_dice_spot, o__law_dice_spot, l__law_dice_int, w__law_dice_int, l__law_dice_max, w__law_dice_max, l__law_dice_len, w__law_dice_len, l__law_dice_script, v__law_dice_script, o__law_dice_script, l__law_dice_abs, w__law_dice_abs, k_abs, g_abs, f_abs, b_abs, r_abs, e_abs, k_int, g_int, f_int, b_int, y_int, r_int, e_int, k_len, g_len, f_len, b_len, r_len, e_len, k_max, g_max, f_max, b_max, r_max, e_max, *])
local macro_rules | `(tactic| walk_at "go _law_pick") => `(tactic| (rw [lev_eq (f := d__law_pick) (by rfl) rfl, en__law_pick]; have hb : defBody d__law_pick.st = defBody d__law_pick.st := rfl; (conv at hb => (rhs; whnf)); rw [hb]; clear hb))
local macro_rules | `(tactic| walk_at "ev _law_pick") => `(tactic| simp (decide := true) only [evSs, evS, ownOf, List.filterMap_cons, List.filterMap_nil, List.map_cons, List.map_nil, Option.map_some, Option.map_none, asgT, asgI, pp_1, List.nil_append, lenOk2, frzL_nil, frzL_cons, frz_tup, Int.mul_one, plainIx, intE, itE_t, itE_l, item_0, item_1, item_2, li_0, li_1, li_2, asgXs, takes_nil, takes_cons, swap, namesOn, headLine, Expr.pos, ed2, ed3, foldedForSure, constantsAlone, List.all_cons, List.all_nil, List.length_cons, List.length_nil, Nat.reduceAdd, Nat.reduceBEq, Nat.reduceBNe, Bool.or_true, Bool.or_false, Bool.true_or, Bool.false_or, beq_self_eq_true, bne_self_eq_false, List.set_cons_zero, List.set_cons_succ, evT, evTs, evE, evO, evA, evB, evP, evF, evI, evW, bind_ok, bind_st, ofO_s, c_val, c_han, g_0, g_s, sole_v, sole_h, take_v, ow_non, ow_bl, ow_int, ow_str, ow_tup, ow_own, ow_fro, ow_ext, ow_ty, ow_fn, ow_dic, b_add, b_sub, b_mod, b_div, b_mul, n_non, n_bl, n_int, n_str, n_tup, n_lst, n_dic, m_is, m_isnot, m_lt, m_le, m_gt, m_ge, m_eq, m_ne, q_int, q_non1, q_non2, q_bl, t_bl, t_int, t_non, t_tup, t_lst, s_and, s_or, plainOp, gOf_N, gOf_bor, sub_N, name_eq, asgN_eq, call_eq, lend_nil, lend_val, lend_han, gb_nil, gb_none, gb_some, noStar, Bool.false_eq_true, if_false, if_true, Bool.not_true, Bool.not_false, fin, outsOf, decide_true, decide_false, Bool.true_and, Bool.and_true, Bool.false_and, Bool.and_false, reduceCtorEq, Option.map_some, frz, frz_int, contents_nil, contents_cons, bl_int, bl_bl, bl_lenT, bl_lenL, bl_abs, bl_max, bl_min, bl_listT, bl_listL, bl_tupT, bl_tupL, bl_any, bl_all, is_int, is_ty, is_non_int, is_non_bool, is_non_tuple, is_non_list, is_non_str, is_non_dict, is_bl_int, is_bl_bool, is_bl_tuple, is_bl_list, is_bl_str, is_bl_dict, is_int_bool, is_int_tuple, is_int_list, is_int_str, is_int_dict, is_str_int, is_str_bool, is_str_tuple, is_str_list, is_str_str, is_str_dict, is_tup_int, is_tup_bool, is_tup_tuple, is_tup_list, is_tup_str, is_tup_dict, is_lst_int, is_lst_bool, is_lst_tuple, is_lst_list, is_lst_str, is_lst_dict, is_dic_int, is_dic_bool, is_dic_tuple, is_dic_list, is_dic_str, is_dic_dict, l__law_pick_items, v__law_pick_items, o__law_pick_items, l__law_pick__law_roll, w__law_pick__law_roll, l__law_pick_dice, v__law_pick_dice, o__law_pick_dice, l__law_pick_len, w__law_pick_len, k__law_roll, g__law_roll, r__law_roll, e__law_roll, k_len, g_len, f_len, b_len, r_len, e_len, *])
local macro_rules | `(tactic| walk_at "go _law_plus") => `(tactic| (rw [lev_eq (f := d__law_plus) (by rfl) rfl, en__law_plus]; have hb : defBody d__law_plus.st = defBody d__law_plus.st := rfl; (conv at hb => (rhs; whnf)); rw [hb]; clear hb))
local macro_rules | `(tactic| walk_at "ev _law_plus") => `(tactic| simp (decide := true) only [evSs, evS, ownOf, List.filterMap_cons, List.filterMap_nil, List.map_cons, List.map_nil, Option.map_some, Option.map_none, asgT, asgI, pp_1, List.nil_append, lenOk2, frzL_nil, frzL_cons, frz_tup, Int.mul_one, plainIx, intE, itE_t, itE_l, item_0, item_1, item_2, li_0, li_1, li_2, asgXs, takes_nil, takes_cons, swap, namesOn, headLine, Expr.pos, ed2, ed3, foldedForSure, constantsAlone, List.all_cons, List.all_nil, List.length_cons, List.length_nil, Nat.reduceAdd, Nat.reduceBEq, Nat.reduceBNe, Bool.or_true, Bool.or_false, Bool.true_or, Bool.false_or, beq_self_eq_true, bne_self_eq_false, List.set_cons_zero, List.set_cons_succ, evT, evTs, evE, evO, evA, evB, evP, evF, evI, evW, bind_ok, bind_st, ofO_s, c_val, c_han, g_0, g_s, sole_v, sole_h, take_v, ow_non, ow_bl, ow_int, ow_str, ow_tup, ow_own, ow_fro, ow_ext, ow_ty, ow_fn, ow_dic, b_add, b_sub, b_mod, b_div, b_mul, n_non, n_bl, n_int, n_str, n_tup, n_lst, n_dic, m_is, m_isnot, m_lt, m_le, m_gt, m_ge, m_eq, m_ne, q_int, q_non1, q_non2, q_bl, t_bl, t_int, t_non, t_tup, t_lst, s_and, s_or, plainOp, gOf_N, gOf_bor, sub_N, name_eq, asgN_eq, call_eq, lend_nil, lend_val, lend_han, gb_nil, gb_none, gb_some, noStar, Bool.false_eq_true, if_false, if_true, Bool.not_true, Bool.not_false, fin, outsOf, decide_true, decide_false, Bool.true_and, Bool.and_true, Bool.false_and, Bool.and_false, reduceCtorEq, Option.map_some, frz, frz_int, contents_nil, contents_cons, bl_int, bl_bl, bl_lenT, bl_lenL, bl_abs, bl_max, bl_min, bl_listT, bl_listL, bl_tupT, bl_tupL, bl_any, bl_all, is_int, is_ty, is_non_int, is_non_bool, is_non_tuple, is_non_list, is_non_str, is_non_dict, is_bl_int, is_bl_bool, is_bl_tuple, is_bl_list, is_bl_str, is_bl_dict, is_int_bool, is_int_tuple, is_int_list, is_int_str, is_int_dict, is_str_int, is_str_bool, is_str_tuple, is_str_list, is_str_str, is_str_dict, is_tup_int, is_tup_bool, is_tup_tuple, is_tup_list, is_tup_str, is_tup_dict, is_lst_int, is_lst_bool, is_lst_tuple, is_lst_list, is_lst_str, is_lst_dict, is_dic_int, is_dic_bool, is_dic_tuple, is_dic_list, is_dic_str, is_dic_dict, l__law_plus__law_share, w__law_plus__law_share, l__law_plus_one, v__law_plus_one, o__law_plus_one, l__law_plus_other, v__law_plus_other, o__law_plus_other, k__law_share, g__law_share, r__law_share, e__law_share, *])
theorem roll_lt (a b c n : Int) (h0 : 0 < n) : 0 ≤ (rollM a b c n).1 ∧ (rollM a b c n).1 < n := by
  unfold rollM
  by_cases h : 0 < a
  · simp only [h, if_true]
    exact ⟨Int.emod_nonneg _ (by omega), Int.emod_lt_of_pos _ h0⟩
  · simp only [h, if_false]
    exact ⟨Int.emod_nonneg _ (by omega), Int.emod_lt_of_pos _ h0⟩
theorem item_int {xs : List D} {i : Int} (h0 : 0 ≤ i) (h1 : i < xs.length) : item xs i = some i.toNat := by
  have h2 := item_nat (xs := xs) (j := i.toNat) (by omega)
  rwa [Int.toNat_of_nonneg h0] at h2
theorem E_law_pick (k : Nat) (a b c : Int) (xs : List D) (d : D) (h0 : 0 < xs.length) (hl : xs.length < 1000) (hc : sm (c + 1)) (hd : xs[(rollM a b c xs.length).1.toNat]? = some d) (ho : owned d = false) :
    lev cM cT (k + 3) "_law_pick" [dI a b c, .lst .fro xs] = .ok (d, [some (dI (rollM a b c xs.length).2.1 (rollM a b c xs.length).2.2.1 (rollM a b c xs.length).2.2.2), none]) := by
  have n0 : (0 : Int) < (xs.length : Int) := by omega
  have ns : sm (xs.length : Int) := sm_nat 1000 (by omega) (by decide)
  have h1 := fun k => E_law_roll k a b c xs.length n0 ns hc
  obtain ⟨r0, r1⟩ := roll_lt a b c xs.length n0
  have hi := item_int r0 r1
  have od : ∀ a b c, owned (dI a b c) = true := fun _ _ _ => rfl
  have hb : borOf [dI a b c, .lst .fro xs] = [0] := rfl
  clear r0 r1 n0 ns hc h0 hl
  walk_at "go _law_pick"
  simp only [hb]
  clear hb
  walk_at "ev _law_pick"
theorem E_law_plus (k : Nat) (n1 d1 n2 d2 c : Int) (s1 : sm n1) (s2 : sm d1) (s3 : sm n2) (s4 : sm d2) (h : gcdL (2 ^ 32) (absI (n1 * d2 + n2 * d1)) (absI (d1 * d2)) = some c) (hj : 0 < d1 * d2) (h0 : 0 < c) (hs : sm c) :
    lev cM cT (k + 3) "_law_plus" [.tup [.int n1, .int d1], .tup [.int n2, .int d2]] = .ok (.tup [.int ((n1 * d2 + n2 * d1) / c), .int (d1 * d2 / c)], [none, none]) := by
  have h1 := fun k => E_law_share k _ _ c h hj h0 hs
  have m1 := mul_sm s1 s4
  have m2 := mul_sm s3 s2
  have m3 := mul_sm s2 s4
  clear h hj h0 hs s1 s2 s3 s4
  walk_at "go _law_plus"
  walk_at "ev _law_plus"
theorem pow59 : binop .Pow (.int 10) (.int 59) = some (.int (10 ^ 59)) := by kernel_rfl
theorem pow17 : binop .Pow (.int 10) (.int 17) = some (.int (10 ^ 17)) := by kernel_rfl
theorem pow5 : binop .Pow (.int (10 ^ 59)) (.int 5) = some (.int ((10 ^ 59) ^ 5)) := by kernel_rfl
theorem lenOk3 : lenOk 3 = true := by unfold lenOk; exact decide_eq_true (by decide)
/-- what the dice hold at first -/
theorem dice_of (k : Nat) (ns : List Int) (p : Nat) (hp : p < 1000) : ∃ x y, lev cM cT (k + 1) "_law_dice" [.lst .ext (ns.map .int), .int p] = .ok (dI x y 0, [none, none]) := by
  have p1 : (0 : Int) < (10 ^ 59) ^ 5 := by decide +kernel
  have p2 : (0 : Int) < 2305843009213693907 := by decide
  have m1 : ∀ x : Int, mulOk (x % 2305843009213693907) 61 = true := fun x => by
    have h1 := Int.emod_nonneg x (show (2305843009213693907 : Int) ≠ 0 by decide)
    have h2 := Int.emod_lt_of_pos x p2
    have : (2 : Nat) ^ 64 ≤ 2 ^ 2000 := Nat.pow_le_pow_right (by decide) (by decide)
    exact mul_sm (by unfold sm; omega) (sm_nat 61 (by decide) (by decide))
  have m2 : mulOk 1009 (p : Int) = true := mul_sm (sm_nat 1009 (by decide) (by decide)) (sm_nat 1000 (by omega) (by decide))
  have m3 : mulOk 653 (p : Int) = true := mul_sm (sm_nat 653 (by decide) (by decide)) (sm_nat 1000 (by omega) (by decide))
  have m4 : ∀ i, i = (0 : Int) ∨ i = 1 → mulOk 19 i = true := fun i h => by rcases h with h | h <;> subst h <;> decide
  have m40 := m4 0 (.inl rfl)
  have m41 := m4 1 (.inr rfl)
  have q1 := pow59
  have q2 := pow17
  have q3 := pow5
  have l3 := lenOk3
  have c2 : ([] : List Nat).contains 2 = false := rfl
  have c3 : ([] : List Nat).contains 3 = false := rfl
  have n2 : (2 : Nat) < 4 := by decide
  have n3 : (3 : Nat) < 4 := by decide
  have hb : borOf [.lst .ext (ns.map D.int), D.int p] = [] := rfl
  have hlen : (ns.map D.int).length = ns.length := by simp
  clear m4 hp
  by_cases hlt : p < ns.length
  · have hi : item (ns.map D.int) (p : Int) = some p := item_nat (by simpa using hlt)
    have hx : (ns.map D.int)[p]? = some (.int ns[p]) := by simp [hlt]
    have hc : ((p : Int) < (ns.length : Int)) = True := by simp; omega
    generalize ns[p] = z at hx
    clear hlt
    walk_at "go _law_dice"
    simp only [hb]
    clear hb
    by_cases hz : z < 0 <;> walk_at "ev _law_dice" <;> exact ⟨_, _, rfl⟩
  · have hc : ((p : Int) < (ns.length : Int)) = False := by simp; omega
    clear hlt
    walk_at "go _law_dice"
    simp only [hb]
    clear hb
    have hp : ¬ (653 * (p : Int) + 71 < 0) := by omega
    walk_at "ev _law_dice"
    exact ⟨_, _, rfl⟩
end K19

set_option Elab.async false
set_option linter.all false
set_option maxRecDepth 100000
set_option maxHeartbeats 4000000
namespace K19
open PySem L2 Ev
local macro_rules | `(tactic| walk_at "go _law_drawn_bound") => `(tactic| (rw [lev_eq (f := d__law_drawn_bound) (by rfl) rfl, en__law_drawn_bound]; have hb : defBody d__law_drawn_bound.st = defBody d__law_drawn_bound.st := rfl; (conv at hb => (rhs; whnf)); rw [hb]; clear hb))
local macro_rules | `(tactic| walk_at "ev _law_drawn_bound") => `(tactic| simp (decide := true) only [evSs, evS, ownOf, List.filterMap_cons, List.filterMap_nil, List.map_cons, List.map_nil, Option.map_some, Option.map_none, asgT, asgI, pp_1, List.nil_append, lenOk2, frzL_nil, frzL_cons, frz_tup, Int.mul_one, plainIx, intE, itE_t, itE_l, item_0, item_1, item_2, li_0, li_1, li_2, asgXs, takes_nil, takes_cons, swap, namesOn, headLine, Expr.pos, ed2, ed3, foldedForSure, constantsAlone, List.all_cons, List.all_nil, List.length_cons, List.length_nil, Nat.reduceAdd, Nat.reduceBEq, Nat.reduceBNe, Bool.or_true, Bool.or_false, Bool.true_or, Bool.false_or, beq_self_eq_true, bne_self_eq_false, List.set_cons_zero, List.set_cons_succ, evT, evTs, evE, evO, evA, evB, evP, evF, evI, evW, bind_ok, bind_st, ofO_s, c_val, c_han, g_0, g_s, sole_v, sole_h, take_v, ow_non, ow_bl, ow_int, ow_str, ow_tup, ow_own, ow_fro, ow_ext, ow_ty, ow_fn, ow_dic, b_add, b_sub, b_mod, b_div, b_mul, n_non, n_bl, n_int, n_str, n_tup, n_lst, n_dic, m_is, m_isnot, m_lt, m_le, m_gt, m_ge, m_eq, m_ne, q_int, q_non1, q_non2, q_bl, t_bl, t_int, t_non, t_tup, t_lst, s_and, s_or, plainOp, gOf_N, gOf_bor, sub_N, name_eq, asgN_eq, call_eq, lend_nil, lend_val, lend_han, gb_nil, gb_none, gb_some, noStar, Bool.false_eq_true, if_false, if_true, Bool.not_true, Bool.not_false, fin, outsOf, decide_true, decide_false, Bool.true_and, Bool.and_true, Bool.false_and, Bool.and_false, reduceCtorEq, Option.map_some, frz, frz_int, contents_nil, contents_cons, bl_int, bl_bl, bl_lenT, bl_lenL, bl_abs, bl_max, bl_min, bl_listT, bl_listL, bl_tupT, bl_tupL, bl_any, bl_all, is_int, is_ty, is_non_int, is_non_bool, is_non_tuple, is_non_list, is_non_str, is_non_dict, is_bl_int, is_bl_bool, is_bl_tuple, is_bl_list, is_bl_str, is_bl_dict, is_int_bool, is_int_tuple, is_int_list, is_int_str, is_int_dict, is_str_int, is_str_bool, is_str_tuple, is_str_list, is_str_str, is_str_dict, is_tup_int, is_tup_bool, is_tup_tuple, is_tup_list, is_tup_str, is_tup_dict, is_lst_int, is_lst_bool, is_lst_tuple, is_lst_list, is_lst_str, is_lst_dict, is_dic_int, is_dic_bool, is_dic_tuple, is_dic_list, is_dic_str, is_dic_dict, l__law_drawn_bound__law_pick, w__law_drawn_bound__law_pick, l__law_drawn_bound_dice, v__law_drawn_bound_dice, o__law_drawn_bound_dice, l__law_drawn_bound__law_roll, w__law_drawn_bound__law_roll, k__law_pick, g__law_pick, r__law_pick, e__law_pick, k__law_roll, g__law_roll, r__law_roll, e__law_roll, *])
theorem roll_c (a b c n : Int) : (rollM a b c n).2.2.2.natAbs ≤ c.natAbs + 1 := by
  unfold rollM
  by_cases h : 0 < a
  · simp only [h, if_true]; omega
  · simp only [h, if_false]; omega
/-- dice that were thrown at most m times -/
def Dice (m : Nat) (d : D) : Prop := ∃ a b c, d = dI a b c ∧ c.natAbs ≤ m
theorem Dice.own {m : Nat} {d : D} (h : Dice m d) : owned d = true := by obtain ⟨a, b, c, e, _⟩ := h; rw [e]; rfl
theorem sm_c {c : Int} {m : Nat} (h : c.natAbs ≤ m) (hm : m < 2 ^ 59) : sm (c + 1) := sm_nat (m + 1) (by omega) (by omega)
theorem roll_spec (k : Nat) {m : Nat} {d : D} (h : Dice m d) (hm : m < 2 ^ 59) (n : Int) (h0 : 0 < n) (hn : n < 2 ^ 40) : ∃ r d', lev cM cT (k + 2) "_law_roll" [d, .int n] = .ok (.int r, [some d', none]) ∧ 0 ≤ r ∧ r < n ∧ Dice (m + 1) d' := by
  obtain ⟨a, b, c, e, hc⟩ := h
  subst e
  obtain ⟨r0, r1⟩ := roll_lt a b c n h0
  refine ⟨_, _, E_law_roll k a b c n h0 (sm_nat (2 ^ 40) (by omega) (by decide)) (sm_c hc hm), r0, r1, _, _, _, rfl, ?_⟩
  have := roll_c a b c n
  omega
theorem pick_spec (k : Nat) {m : Nat} {d : D} (h : Dice m d) (hm : m < 2 ^ 59) (xs : List D) (h0 : 0 < xs.length) (hl : xs.length < 1000) (ho : ∀ x ∈ xs, owned x = false) :
    ∃ x d', lev cM cT (k + 3) "_law_pick" [d, .lst .fro xs] = .ok (x, [some d', none]) ∧ x ∈ xs ∧ Dice (m + 1) d' := by
  obtain ⟨a, b, c, e, hc⟩ := h
  subst e
  obtain ⟨r0, r1⟩ := roll_lt a b c xs.length (by omega)
  have hlt : (rollM a b c xs.length).1.toNat < xs.length := by omega
  have hx := List.getElem?_eq_getElem hlt
  refine ⟨_, _, E_law_pick k a b c xs _ h0 hl (sm_c hc hm) hx (ho _ (List.getElem_mem hlt)), List.getElem_mem hlt, _, _, _, rfl, ?_⟩
  have := roll_c a b c xs.length
  omega
/-- a bound that is not too great -/
def Bd (x : Option Int) : Prop := ∀ b, x = some b → b.natAbs ≤ 10 ^ 64
theorem pow60 : binop .Pow (.int 10) (.int 60) = some (.int (10 ^ 60)) := by kernel_rfl
theorem pow4 : binop .Pow (.int 10) (.int 4) = some (.int (10 ^ 4)) := by kernel_rfl
theorem mul64 : mulOk (10 ^ 60) (10 ^ 4) = true := by decide +kernel
theorem lenOk10 : lenOk 10 = true := by unfold lenOk; exact decide_eq_true (by decide)
theorem drawn_bound (k : Nat) {m : Nat} {d : D} (h : Dice m d) (hm : m + 1 < 2 ^ 59) : ∃ x d', lev cM cT (k + 4) "_law_drawn_bound" [d] = .ok (oD x, [some d']) ∧ Bd x ∧ Dice (m + 2) d' := by
  obtain ⟨r, d1, h1, r0, r1, dc1⟩ := roll_spec (k + 1) h (by omega) 40 (by decide) (by decide)
  have h1' : ∀ k', k' + 2 = k + 3 → lev cM cT (k' + 2) "_law_roll" [d, .int 40] = .ok (.int r, [some d1, none]) := fun k' e => by
    have : k' = k + 1 := by omega
    subst this; exact h1
  have od := h.own
  have od1 := dc1.own
  have hb : borOf [d] = [0] := by
    unfold borOf
    simp [od, List.range_succ]
  have q1 := pow60
  have q2 := pow4
  have q3 := mul64
  have l3 := lenOk10
  obtain ⟨x, d2, h2, hx, dc2⟩ := pick_spec k dc1 (by omega) [.non, .int 0, .int 1, .int (-1), .int 2, .int (-2), .int 7, .int (-9), .int (10 ^ 60 * 10 ^ 4), .int (r - 20)] (by simp) (by simp) (by intro x hx; simp at hx; rcases hx with h | h | h | h | h | h | h | h | h | h <;> subst h <;> rfl)
  have od2 := dc2.own
  have fin : ∃ y, x = oD y ∧ Bd y := by
    simp only [List.mem_cons, List.not_mem_nil, or_false] at hx
    rcases hx with h | h | h | h | h | h | h | h | h | h <;> subst h
    · exact ⟨none, rfl, fun b e => by cases e⟩
    all_goals exact ⟨some _, rfl, fun b e => by cases e; first | decide | (have : (100 : Nat) ≤ 10 ^ 64 := by decide +kernel); omega⟩
  obtain ⟨y, ey, hy⟩ := fin
  subst ey
  refine ⟨y, d2, ?_, hy, dc2⟩
  have hoy : owned (oD y) = false := by cases y <;> rfl
  clear hx r0 r1 dc1 dc2 hy h hm
  walk_at "go _law_drawn_bound"
  simp only [hb]
  clear hb
  walk_at "ev _law_drawn_bound"
end K19

set_option Elab.async false
set_option linter.all false
set_option maxRecDepth 100000
set_option maxHeartbeats 4000000
namespace K19
open PySem L2 Ev
local macro_rules | `(tactic| walk_at "go _law_drawn_bound") => `(tactic| (rw [lev_eq (f := d__law_drawn_bound) (by rfl) rfl, en__law_drawn_bound]; have hb : defBody d__law_drawn_bound.st = defBody d__law_drawn_bound.st := rfl; (conv at hb => (rhs; whnf)); rw [hb]; clear hb))
local macro_rules | `(tactic| walk_at "ev _law_drawn_bound") => `(tactic| simp (decide := true) only [evSs, evS, ownOf, List.filterMap_cons, List.filterMap_nil, List.map_cons, List.map_nil, Option.map_some, Option.map_none, asgT, asgI, pp_1, List.nil_append, lenOk2, frzL_nil, frzL_cons, frz_tup, Int.mul_one, plainIx, intE, itE_t, itE_l, item_0, item_1, item_2, li_0, li_1, li_2, asgXs, takes_nil, takes_cons, swap, namesOn, headLine, Expr.pos, ed2, ed3, foldedForSure, constantsAlone, List.all_cons, List.all_nil, List.length_cons, List.length_nil, Nat.reduceAdd, Nat.reduceBEq, Nat.reduceBNe, Bool.or_true, Bool.or_false, Bool.true_or, Bool.false_or, beq_self_eq_true, bne_self_eq_false, List.set_cons_zero, List.set_cons_succ, evT, evTs, evE, evO, evA, evB, evP, evF, evI, evW, bind_ok, bind_st, ofO_s, c_val, c_han, g_0, g_s, sole_v, sole_h, take_v, ow_non, ow_bl, ow_int, ow_str, ow_tup, ow_own, ow_fro, ow_ext, ow_ty, ow_fn, ow_dic, b_add, b_sub, b_mod, b_div, b_mul, n_non, n_bl, n_int, n_str, n_tup, n_lst, n_dic, m_is, m_isnot, m_lt, m_le, m_gt, m_ge, m_eq, m_ne, q_int, q_non1, q_non2, q_bl, t_bl, t_int, t_non, t_tup, t_lst, s_and, s_or, plainOp, gOf_N, gOf_bor, sub_N, name_eq, asgN_eq, call_eq, lend_nil, lend_val, lend_han, gb_nil, gb_none, gb_some, noStar, Bool.false_eq_true, if_false, if_true, Bool.not_true, Bool.not_false, fin, outsOf, decide_true, decide_false, Bool.true_and, Bool.and_true, Bool.false_and, Bool.and_false, reduceCtorEq, Option.map_some, frz, frz_int, contents_nil, contents_cons, bl_int, bl_bl, bl_lenT, bl_lenL, bl_abs, bl_max, bl_min, bl_listT, bl_listL, bl_tupT, bl_tupL, bl_any, bl_all, is_int, is_ty, is_non_int, is_non_bool, is_non_tuple, is_non_list, is_non_str, is_non_dict, is_bl_int, is_bl_bool, is_bl_tuple, is_bl_list, is_bl_str, is_bl_dict, is_int_bool, is_int_tuple, is_int_list, is_int_str, is_int_dict, is_str_int, is_str_bool, is_str_tuple, is_str_list, is_str_str, is_str_dict, is_tup_int, is_tup_bool, is_tup_tuple, is_tup_list, is_tup_str, is_tup_dict, is_lst_int, is_lst_bool, is_lst_tuple, is_lst_list, is_lst_str, is_lst_dict, is_dic_int, is_dic_bool, is_dic_tuple, is_dic_list, is_dic_str, is_dic_dict, l__law_drawn_bound__law_pick, w__law_drawn_bound__law_pick, l__law_drawn_bound_dice, v__law_drawn_bound_dice, o__law_drawn_bound_dice, l__law_drawn_bound__law_roll, w__law_drawn_bound__law_roll, k__law_pick, g__law_pick, r__law_pick, e__law_pick, k__law_roll, g__law_roll, r__law_roll, e__law_roll, *])
theorem gcd_spec : ∀ (n : Nat) (i j : Int), 0 ≤ i → 0 ≤ j → j < n → ∃ c, gcdL n i j = some c ∧ 0 ≤ c ∧ c ∣ i ∧ c ∣ j ∧ ((0 < i ∨ 0 < j) → 0 < c)
  | 0, i, j, hi, hj, h => by omega
  | n + 1, i, j, hi, hj, h => by
    unfold gcdL
    by_cases hp : 0 < j
    · rw [if_pos hp]
      have h1 := Int.emod_nonneg i (show j ≠ 0 by omega)
      have h2 := Int.emod_lt_of_pos i hp
      obtain ⟨c, q1, q2, q3, q4, q5⟩ := gcd_spec n j (i % j) hj h1 (by omega)
      refine ⟨c, q1, q2, ?_, q3, fun _ => q5 (.inl hp)⟩
      have e := Int.mul_ediv_add_emod i j
      rw [← e]
      exact Int.dvd_add (Int.dvd_trans q3 (Int.dvd_mul_right _ _)) q4
    · rw [if_neg hp]
      have : j = 0 := by omega
      subst this
      exact ⟨i, rfl, hi, Int.dvd_refl i, Int.dvd_zero i, fun z => by rcases z with z | z <;> omega⟩
theorem holdsM_iff {n d b : Int} : holdsM n d (some b) = true ↔ (b % 2 = 0 → 2 * n ≤ b * d) ∧ (b % 2 ≠ 0 → 2 * n < (b + 1) * d) := by
  unfold holdsM
  by_cases h : b % 2 = 0
  · simp [h]
  · simp [h]
/-- a sum of fractions stays under the sum of the bounds -/
theorem holds_sum {n1 d1 n2 d2 N D g : Int} {x y : Option Int} (p1 : 0 < d1) (p2 : 0 < d2) (pg : 0 < g) (eN : g * N = n1 * d2 + n2 * d1) (eD : g * D = d1 * d2) (h1 : holdsM n1 d1 x = true) (h2 : holdsM n2 d2 y = true) : holdsM N D (addO x y) = true := by
  cases x with
  | none => rfl
  | some b1 => cases y with
    | none => rfl
    | some b2 =>
      have key : ∀ s t : Int, 2 * n1 * d2 + 2 * n2 * d1 ≤ s * (d1 * d2) → 2 * N ≤ s * D := fun s t h => by
        have : g * (2 * N) ≤ g * (s * D) := by
          have e1 : g * (2 * N) = 2 * (g * N) := by rw [Int.mul_left_comm]
          have e2 : g * (s * D) = s * (g * D) := by rw [Int.mul_left_comm]
          rw [e1, e2, eN, eD, Int.mul_add]
          simpa [Int.mul_assoc] using h
        exact Int.le_of_mul_le_mul_left this pg
      have keyl : ∀ s t : Int, 2 * n1 * d2 + 2 * n2 * d1 < s * (d1 * d2) → 2 * N < s * D := fun s t h => by
        have : g * (2 * N) < g * (s * D) := by
          have e1 : g * (2 * N) = 2 * (g * N) := by rw [Int.mul_left_comm]
          have e2 : g * (s * D) = s * (g * D) := by rw [Int.mul_left_comm]
          rw [e1, e2, eN, eD, Int.mul_add]
          simpa [Int.mul_assoc] using h
        exact Int.lt_of_mul_lt_mul_left this (Int.le_of_lt pg)
      have ml : ∀ {a b : Int}, a ≤ b → a * d2 ≤ b * d2 := fun h => Int.mul_le_mul_of_nonneg_right h (Int.le_of_lt p2)
      have mr : ∀ {a b : Int}, a ≤ b → a * d1 ≤ b * d1 := fun h => Int.mul_le_mul_of_nonneg_right h (Int.le_of_lt p1)
      have nl : ∀ {a b : Int}, a < b → a * d2 < b * d2 := fun h => Int.mul_lt_mul_of_pos_right h p2
      have nr : ∀ {a b : Int}, a < b → a * d1 < b * d1 := fun h => Int.mul_lt_mul_of_pos_right h p1
      have c1 : ∀ s : Int, s * d1 * d2 = s * (d1 * d2) := fun s => Int.mul_assoc s d1 d2
      have c2 : ∀ s : Int, s * d2 * d1 = s * (d1 * d2) := fun s => by rw [Int.mul_assoc, Int.mul_comm d2 d1]
      simp only [addO]
      rw [holdsM_iff] at h1 h2 ⊢
      by_cases o1 : b1 % 2 = 0 <;> by_cases o2 : b2 % 2 = 0
      · have e : addB b1 b2 = b1 + b2 := by unfold addB; rw [if_neg (by omega)]; omega
        rw [e]
        have a1 := ml (h1.1 o1)
        have a2 := mr (h2.1 o2)
        rw [c1] at a1
        rw [c2] at a2
        exact ⟨fun _ => key _ 0 (by rw [Int.add_mul]; omega), fun f => by omega⟩
      · have e : addB b1 b2 = b1 + b2 := by unfold addB; rw [if_neg (by omega)]; omega
        rw [e]
        have a1 := ml (h1.1 o1)
        have a2 := nr (h2.2 o2)
        rw [c1] at a1
        rw [c2] at a2
        exact ⟨fun f => by omega, fun _ => keyl _ 0 (by rw [show b1 + b2 + 1 = b1 + (b2 + 1) by omega, Int.add_mul b1 (b2 + 1)]; omega)⟩
      · have e : addB b1 b2 = b1 + b2 := by unfold addB; rw [if_neg (by omega)]; omega
        rw [e]
        have a1 := nl (h1.2 o1)
        have a2 := mr (h2.1 o2)
        rw [c1] at a1
        rw [c2] at a2
        exact ⟨fun f => by omega, fun _ => keyl _ 0 (by rw [show b1 + b2 + 1 = (b1 + 1) + b2 by omega, Int.add_mul (b1 + 1) b2]; omega)⟩
      · have e : addB b1 b2 = b1 + b2 + 1 := by unfold addB; rw [if_pos (by omega)]
        rw [e]
        have a1 := nl (h1.2 o1)
        have a2 := nr (h2.2 o2)
        rw [c1] at a1
        rw [c2] at a2
        exact ⟨fun f => by omega, fun _ => keyl _ 0 (by rw [show b1 + b2 + 1 + 1 = (b1 + 1) + (b2 + 1) by omega, Int.add_mul (b1 + 1) (b2 + 1)]; omega)⟩
end K19

set_option Elab.async false
set_option linter.all false
set_option maxRecDepth 100000
set_option maxHeartbeats 4000000
namespace K19
open PySem L2 Ev
local macro_rules | `(tactic| walk_at "go add_bounds_tables") => `(tactic| (rw [lev_eq (f := d_add_bounds_tables) (by rfl) rfl, en_add_bounds_tables]; have hb : defBody d_add_bounds_tables.st = defBody d_add_bounds_tables.st := rfl; (conv at hb => (rhs; whnf)); rw [hb]; clear hb))
local macro_rules | `(tactic| walk_at "ev add_bounds_tables") => `(tactic| simp (decide := true) only [evSs, evS, ownOf, List.filterMap_cons, List.filterMap_nil, List.map_cons, List.map_nil, Option.map_some, Option.map_none, asgT, asgI, pp_1, List.nil_append, lenOk2, frzL_nil, frzL_cons, frz_tup, Int.mul_one, plainIx, intE, itE_t, itE_l, item_0, item_1, item_2, li_0, li_1, li_2, asgXs, takes_nil, takes_cons, swap, namesOn, headLine, Expr.pos, ed2, ed3, foldedForSure, constantsAlone, List.all_cons, List.all_nil, List.length_cons, List.length_nil, Nat.reduceAdd, Nat.reduceBEq, Nat.reduceBNe, Bool.or_true, Bool.or_false, Bool.true_or, Bool.false_or, beq_self_eq_true, bne_self_eq_false, List.set_cons_zero, List.set_cons_succ, evT, evTs, evE, evO, evA, evB, evP, evF, evI, evW, bind_ok, bind_st, ofO_s, c_val, c_han, g_0, g_s, sole_v, sole_h, take_v, ow_non, ow_bl, ow_int, ow_str, ow_tup, ow_own, ow_fro, ow_ext, ow_ty, ow_fn, ow_dic, b_add, b_sub, b_mod, b_div, b_mul, n_non, n_bl, n_int, n_str, n_tup, n_lst, n_dic, m_is, m_isnot, m_lt, m_le, m_gt, m_ge, m_eq, m_ne, q_int, q_non1, q_non2, q_bl, t_bl, t_int, t_non, t_tup, t_lst, s_and, s_or, plainOp, gOf_N, gOf_bor, sub_N, name_eq, asgN_eq, call_eq, lend_nil, lend_val, lend_han, gb_nil, gb_none, gb_some, noStar, Bool.false_eq_true, if_false, if_true, Bool.not_true, Bool.not_false, fin, outsOf, decide_true, decide_false, Bool.true_and, Bool.and_true, Bool.false_and, Bool.and_false, reduceCtorEq, Option.map_some, frz, frz_int, contents_nil, contents_cons, bl_int, bl_bl, bl_lenT, bl_lenL, bl_abs, bl_max, bl_min, bl_listT, bl_listL, bl_tupT, bl_tupL, bl_any, bl_all, is_int, is_ty, is_non_int, is_non_bool, is_non_tuple, is_non_list, is_non_str, is_non_dict, is_bl_int, is_bl_bool, is_bl_tuple, is_bl_list, is_bl_str, is_bl_dict, is_int_bool, is_int_tuple, is_int_list, is_int_str, is_int_dict, is_str_int, is_str_bool, is_str_tuple, is_str_list, is_str_str, is_str_dict, is_tup_int, is_tup_bool, is_tup_tuple, is_tup_list, is_tup_str, is_tup_dict, is_lst_int, is_lst_bool, is_lst_tuple, is_lst_list, is_lst_str, is_lst_dict, is_dic_int, is_dic_bool, is_dic_tuple, is_dic_list, is_dic_str, is_dic_dict, l_add_bounds_tables_add_bounds_marks, w_add_bounds_tables_add_bounds_marks, l_add_bounds_tables_one, v_add_bounds_tables_one, o_add_bounds_tables_one, l_add_bounds_tables_other, v_add_bounds_tables_other, o_add_bounds_tables_other, l_add_bounds_tables_InvalidOperation, w_add_bounds_tables_InvalidOperation, l_add_bounds_tables_is_bound_marks, w_add_bounds_tables_is_bound_marks, k_InvalidOperation, g_InvalidOperation, r_InvalidOperation, e_InvalidOperation, k_add_bounds_marks, g_add_bounds_marks, r_add_bounds_marks, e_add_bounds_marks, k_is_bound_marks, g_is_bound_marks, r_is_bound_marks, e_is_bound_marks, *])
theorem absI_dvd {c i : Int} (h : c ∣ absI i) : c ∣ i := by
  unfold absI at h
  split at h
  · exact (Int.dvd_neg).mp h
  · exact h
theorem gcd_ok (i j : Int) (hj : 0 < j) (h32 : j < 2 ^ 32) : ∃ c, gcdL (2 ^ 32) (absI i) (absI j) = some c ∧ 0 < c ∧ c ∣ i ∧ c ∣ j ∧ c ≤ j := by
  have ai : 0 ≤ absI i := by unfold absI; split <;> omega
  have aj : absI j = j := by unfold absI; rw [if_neg (by omega)]
  rw [aj]
  obtain ⟨c, q1, q2, q3, q4, q5⟩ := gcd_spec (2 ^ 32) (absI i) j ai (by omega) (by omega)
  exact ⟨c, q1, q5 (.inr hj), absI_dvd q3, q4, Int.le_of_dvd hj q4⟩
theorem share_spec (k : Nat) (i j : Int) (hj : 0 < j) (h32 : j < 2 ^ 32) : ∃ N D g, lev cM cT (k + 2) "_law_share" [.int i, .int j] = .ok (.tup [.int N, .int D], [none, none]) ∧ 0 < D ∧ 0 < g ∧ g * N = i ∧ g * D = j := by
  obtain ⟨c, q1, q2, q3, q4, q5⟩ := gcd_ok i j hj h32
  refine ⟨_, _, c, E_law_share k i j c q1 hj q2 (sm_nat (2 ^ 32) (by omega) (by decide)), ?_, q2, Int.mul_ediv_cancel' q3, Int.mul_ediv_cancel' q4⟩
  have e := Int.mul_ediv_cancel' q4
  rcases Int.lt_trichotomy (j / c) 0 with h | h | h
  · have := Int.mul_neg_of_pos_of_neg q2 h; omega
  · rw [h] at e; omega
  · exact h
theorem E_add_bounds_tables (k : Nat) (x y : Option Int) : lev cM cT (k + 3) "add_bounds_tables" [oD x, oD y] = .ok (oD (addO x y), [none, none]) := by
  have hb : ∀ (k : Nat) (x : Option Int), lev cM cT (k + 2) "is_bound_marks" [oD x] = .ok (.bl true, [none]) := fun k x => by
    have := E_is_bound_marks k (oD x) (by cases x <;> rfl)
    rw [this]; cases x <;> rfl
  have ha := fun (k : Nat) (x y : Option Int) => E_add_bounds_marks k x y
  have ho : ∀ x, owned (oD x) = false := fun x => by cases x <;> rfl
  have hf : ∀ x, frz (oD x) = oD x := fun x => by cases x <;> rfl
  have ha' : lev cM cT (k + 2) "add_bounds_marks" [oD x, oD y] = .ok (oD (addO x y), [none, none]) := E_add_bounds_marks (k + 1) x y
  have hb' : ∀ x, lev cM cT (k + 2) "is_bound_marks" [oD x] = .ok (.bl true, [none]) := fun x => hb k x
  clear hb ha
  walk_at "go add_bounds_tables"
  walk_at "ev add_bounds_tables"
/-- going round: nothing is returned -/
theorem forL_inv {asg : D → En → R En} {body : En → R Fl} (P : Nat → En → Prop) : ∀ (ds : List D) (i : Nat) (e : En), (∀ j d e, ds[j]? = some d → P (i + j) e → ∃ e1 e2, asg d e = .ok e1 ∧ (body e1 = .ok (.nx e2) ∨ body e1 = .ok (.ct e2)) ∧ P (i + j + 1) e2) → P i e → ∃ e', forL asg body ds e = .ok (.nx e') ∧ P (i + ds.length) e'
  | [], i, e, _, h => ⟨e, rfl, h⟩
  | d :: ds, i, e, st, h => by
    obtain ⟨e1, e2, q1, q2, q3⟩ := st 0 d e rfl h
    obtain ⟨e', r1, r2⟩ := forL_inv P ds (i + 1) e2 (fun j d e hd hp => by
      have := st (j + 1) d e (by simpa using hd) (by rwa [show i + (j + 1) = i + 1 + j by omega])
      rwa [show i + (j + 1) + 1 = i + 1 + j + 1 by omega] at this) q3
    refine ⟨e', ?_, by rwa [show i + 1 + ds.length = i + (d :: ds).length by simp; omega] at r2⟩
    simp only [forL, q1, bind_ok]
    rcases q2 with q2 | q2 <;> simp only [q2, bind_ok] <;> exact r1
end K19

set_option Elab.async false
set_option linter.all false
set_option maxRecDepth 100000
set_option maxHeartbeats 4000000
namespace K19
open PySem L2 Ev
local macro_rules | `(tactic| walk_at "go _law_holds_sum") => `(tactic| (rw [lev_eq (f := d__law_holds_sum) (by rfl) rfl, en__law_holds_sum]; have hb : defBody d__law_holds_sum.st = defBody d__law_holds_sum.st := rfl; (conv at hb => (rhs; whnf)); rw [hb]; clear hb))
local macro_rules | `(tactic| walk_at "ev _law_holds_sum") => `(tactic| simp (decide := true) only [evSs, evS, ownOf, List.filterMap_cons, List.filterMap_nil, List.map_cons, List.map_nil, Option.map_some, Option.map_none, asgT, asgI, pp_1, List.nil_append, lenOk2, frzL_nil, frzL_cons, frz_tup, Int.mul_one, plainIx, intE, itE_t, itE_l, item_0, item_1, item_2, li_0, li_1, li_2, asgXs, takes_nil, takes_cons, swap, namesOn, headLine, Expr.pos, ed2, ed3, foldedForSure, constantsAlone, List.all_cons, List.all_nil, List.length_cons, List.length_nil, Nat.reduceAdd, Nat.reduceBEq, Nat.reduceBNe, Bool.or_true, Bool.or_false, Bool.true_or, Bool.false_or, beq_self_eq_true, bne_self_eq_false, List.set_cons_zero, List.set_cons_succ, evT, evTs, evE, evO, evA, evB, evP, evF, evI, evW, bind_ok, bind_st, ofO_s, c_val, c_han, g_0, g_s, sole_v, sole_h, take_v, ow_non, ow_bl, ow_int, ow_str, ow_tup, ow_own, ow_fro, ow_ext, ow_ty, ow_fn, ow_dic, b_add, b_sub, b_mod, b_div, b_mul, n_non, n_bl, n_int, n_str, n_tup, n_lst, n_dic, m_is, m_isnot, m_lt, m_le, m_gt, m_ge, m_eq, m_ne, q_int, q_non1, q_non2, q_bl, t_bl, t_int, t_non, t_tup, t_lst, s_and, s_or, plainOp, gOf_N, gOf_bor, sub_N, name_eq, asgN_eq, call_eq, lend_nil, lend_val, lend_han, gb_nil, gb_none, gb_some, noStar, Bool.false_eq_true, if_false, if_true, Bool.not_true, Bool.not_false, fin, outsOf, decide_true, decide_false, Bool.true_and, Bool.and_true, Bool.false_and, Bool.and_false, reduceCtorEq, Option.map_some, frz, frz_int, contents_nil, contents_cons, bl_int, bl_bl, bl_lenT, bl_lenL, bl_abs, bl_max, bl_min, bl_listT, bl_listL, bl_tupT, bl_tupL, bl_any, bl_all, is_int, is_ty, is_non_int, is_non_bool, is_non_tuple, is_non_list, is_non_str, is_non_dict, is_bl_int, is_bl_bool, is_bl_tuple, is_bl_list, is_bl_str, is_bl_dict, is_int_bool, is_int_tuple, is_int_list, is_int_str, is_int_dict, is_str_int, is_str_bool, is_str_tuple, is_str_list, is_str_str, is_str_dict, is_tup_int, is_tup_bool, is_tup_tuple, is_tup_list, is_tup_str, is_tup_dict, is_lst_int, is_lst_bool, is_lst_tuple, is_lst_list, is_lst_str, is_lst_dict, is_dic_int, is_dic_bool, is_dic_tuple, is_dic_list, is_dic_str, is_dic_dict, l__law_holds_sum_told, v__law_holds_sum_told, o__law_holds_sum_told, l__law_holds_sum_turn, v__law_holds_sum_turn, o__law_holds_sum_turn, l__law_holds_sum_add_bounds_tables, w__law_holds_sum_add_bounds_tables, l__law_holds_sum_one, v__law_holds_sum_one, o__law_holds_sum_one, l__law_holds_sum_other, v__law_holds_sum_other, o__law_holds_sum_other, l__law_holds_sum_range, w__law_holds_sum_range, l__law_holds_sum_first, v__law_holds_sum_first, o__law_holds_sum_first, l__law_holds_sum_last, v__law_holds_sum_last, o__law_holds_sum_last, l__law_holds_sum__law_share, w__law_holds_sum__law_share, l__law_holds_sum__law_sum, w__law_holds_sum__law_sum, l__law_holds_sum__law_pick, w__law_holds_sum__law_pick, l__law_holds_sum_dice, v__law_holds_sum_dice, o__law_holds_sum_dice, l__law_holds_sum__law_holds, w__law_holds_sum__law_holds, l__law_holds_sum__law_roll, w__law_holds_sum__law_roll, l__law_holds_sum__law_plus, w__law_holds_sum__law_plus, k__law_holds, g__law_holds, r__law_holds, e__law_holds, k__law_pick, g__law_pick, r__law_pick, e__law_pick, k__law_plus, g__law_plus, r__law_plus, e__law_plus, k__law_roll, g__law_roll, r__law_roll, e__law_roll, k__law_share, g__law_share, r__law_share, e__law_share, k__law_sum, g__law_sum, r__law_sum, e__law_sum, k_add_bounds_tables, g_add_bounds_tables, r_add_bounds_tables, e_add_bounds_tables, k_range, g_range, f_range, r_range, e_range, *])
theorem eq_oD (x : Option Int) : eqD (oD x) (oD x) = some true := by
  cases x with
  | none => exact q_non1
  | some i => simp only [oD, q_int, decide_true]
theorem addB_comm (i j : Int) : addB i j = addB j i := by
  unfold addB
  by_cases h1 : i % 2 = 1 <;> by_cases h2 : j % 2 = 1 <;> simp only [h1, h2, and_true, and_false, true_and, false_and, if_true, if_false] <;> omega
theorem addO_comm (x y : Option Int) : addO x y = addO y x := by
  cases x <;> cases y <;> simp only [addO, addB_comm]
theorem addB_assoc (i j l : Int) : addB (addB i j) l = addB i (addB j l) := by
  unfold addB
  by_cases h1 : i % 2 = 1 <;> by_cases h2 : j % 2 = 1 <;> by_cases h3 : l % 2 = 1 <;> simp only [h1, h2, h3, and_true, and_false, true_and, false_and, if_true, if_false, and_self] <;> (repeat' split) <;> omega
theorem addO_assoc (x y z : Option Int) : addO (addO x y) z = addO x (addO y z) := by
  cases x <;> cases y <;> cases z <;> simp only [addO, addB_assoc]
theorem bd_addO {x y : Option Int} {m n : Nat} (hx : ∀ b, x = some b → b.natAbs ≤ m) (hy : ∀ b, y = some b → b.natAbs ≤ n) : ∀ b, addO x y = some b → b.natAbs ≤ m + n + 1 := fun b h => by
  cases x with
  | none => cases h
  | some i => cases y with
    | none => cases h
    | some j =>
      simp only [addO, Option.some.injEq] at h
      subst h
      have h1 := hx i rfl
      have h2 := hy j rfl
      unfold addB
      split <;> omega
theorem ex_bind {α β γ : Type} {x : R α} {f : α → R β} {y : γ → R β} {Q : γ → Prop} (S : α → Prop) (h : ∃ a, x = .ok a ∧ S a) (k : ∀ a, S a → ∃ c, f a = y c ∧ Q c) : ∃ c, x.bind f = y c ∧ Q c := by
  obtain ⟨a, h1, h2⟩ := h
  rw [h1]
  exact k a h2
theorem plus_spec (k : Nat) {n1 d1 n2 d2 : Int} (p1 : 0 < d1) (p2 : 0 < d2) (l1 : d1 ≤ 1000) (l2 : d2 ≤ 1000) (s1 : sm n1) (s2 : sm n2) : ∃ N D g, lev cM cT (k + 3) "_law_plus" [.tup [.int n1, .int d1], .tup [.int n2, .int d2]] = .ok (.tup [.int N, .int D], [none, none]) ∧ 0 < D ∧ 0 < g ∧ g * N = n1 * d2 + n2 * d1 ∧ g * D = d1 * d2 := by
  have hj : 0 < d1 * d2 := Int.mul_pos p1 p2
  have hle : d1 * d2 ≤ 1000 * 1000 := Int.mul_le_mul l1 l2 (by omega) (by omega)
  obtain ⟨c, q1, q2, q3, q4, q5⟩ := gcd_ok (n1 * d2 + n2 * d1) (d1 * d2) hj (by omega)
  refine ⟨_, _, c, E_law_plus k n1 d1 n2 d2 c s1 (sm_nat 1000 (by omega) (by decide)) s2 (sm_nat 1000 (by omega) (by decide)) q1 hj q2 (sm_nat (1000 * 1000) (by omega) (by decide)), ?_, q2, Int.mul_ediv_cancel' q3, Int.mul_ediv_cancel' q4⟩
  have e := Int.mul_ediv_cancel' q4
  rcases Int.lt_trichotomy (d1 * d2 / c) 0 with h | h | h
  · have := Int.mul_neg_of_pos_of_neg q2 h; omega
  · rw [h] at e; omega
  · exact h
theorem part_le {g N n : Int} {m : Nat} (h0 : 0 < g) (e : g * N = n) (h : n.natAbs ≤ m) : N.natAbs ≤ m := by
  have : n.natAbs = g.natAbs * N.natAbs := by rw [← e, Int.natAbs_mul]
  have h1 : 1 ≤ g.natAbs := by omega
  have h2 : 1 * N.natAbs ≤ g.natAbs * N.natAbs := Nat.mul_le_mul_right _ h1
  omega
theorem one23 {x : D} (h : x ∈ [D.int 1, .int 2, .int 3]) : ∃ q : Int, x = .int q ∧ 0 < q ∧ q ≤ 3 := by
  simp only [List.mem_cons, List.not_mem_nil, or_false] at h
  rcases h with h | h | h <;> subst h <;> exact ⟨_, rfl, by decide, by decide⟩
theorem bd_sm {x : Option Int} {m : Nat} (h : ∀ b, x = some b → b.natAbs ≤ m) (hm : m ≤ 10 ^ 70) : ∀ b, x = some b → sm b ∧ sm (b + 1) := fun b e => by
  have h1 := h b e
  have : (10 : Nat) ^ 70 + 1 < 2 ^ 300 := by decide +kernel
  have : (2 : Nat) ^ 300 ≤ 2 ^ 2000 := Nat.pow_le_pow_right (by decide) (by decide)
  unfold sm
  constructor <;> omega
theorem holds_sum_def (k : Nat) {m : Nat} {d : D} (h : Dice m d) (hm : m + 24 < 2 ^ 59) (x y : Option Int) (hx : Bd x) (hy : Bd y) : ∃ d', lev cM cT (k + 5) "_law_holds_sum" [d, oD x, oD y] = .ok (.bl true, [some d', none, none]) ∧ Dice (m + 24) d' := by
  have od := h.own
  have ho : ∀ x, owned (oD x) = false := fun x => by cases x <;> rfl
  have hf : ∀ x, frz (oD x) = oD x := fun x => by cases x <;> rfl
  have hb : borOf [d, oD x, oD y] = [0] := by
    unfold borOf
    simp [od, ho, List.range_succ]
  have ha : lev cM cT (k + 4) "add_bounds_tables" [oD x, oD y] = .ok (oD (addO x y), [none, none]) := E_add_bounds_tables (k + 1) x y
  have ha2 : lev cM cT (k + 4) "add_bounds_tables" [oD y, oD x] = .ok (oD (addO x y), [none, none]) := by rw [addO_comm]; exact E_add_bounds_tables (k + 1) y x
  have hs : lev cM cT (k + 4) "_law_sum" [oD x, oD y] = .ok (oD (addO x y), [none, none]) := E_law_sum (k + 3) x y
  have he := eq_oD (addO x y)
  have c3 : ([0] : List Nat).contains 3 = false := by decide
  have n3 : (3 : Nat) < 7 := by decide
  have c4 : ([0] : List Nat).contains 4 = false := by decide
  have n4 : (4 : Nat) < 7 := by decide
  walk_at "go _law_holds_sum"
  simp only [hb]
  clear hb
  walk_at "ev _law_holds_sum"
  have r6 : rgOk 6 = true := by decide
  simp only [R.bind_assoc, r6, if_true, bind_ok]
  refine ex_bind (fun a => ∃ d' o4 o5 o6, a = .nx [some d', some (oD x), some (oD y), some (oD (addO x y)), o4, o5, o6] ∧ Dice (m + 24) d')
    (Exists.elim (forL_inv (fun i e => ∃ d' o4 o5 o6, e = [some d', some (oD x), some (oD y), some (oD (addO x y)), o4, o5, o6] ∧ Dice (m + 4 * i) d') _ 0 _ ?st ⟨d, none, none, none, rfl, h⟩) fun e' hh => ⟨_, hh.1, ?_⟩) ?_
  case st =>
    rintro j t e hj ⟨d0, o4, o5, o6, rfl, dc0⟩
    have hj6 : j < 6 := by
      have := (List.getElem?_eq_some_iff.mp hj).1
      simpa [rgD_length] using this
    clear h od ha ha2 hs he
    obtain ⟨r1, d1, e1, a1, b1, dc1⟩ := roll_spec (k + 2) dc0 (by omega) 30 (by decide) (by decide)
    obtain ⟨x1, d2, e2, m2, dc2⟩ := pick_spec (k + 1) dc1 (by omega) [.int 1, .int 2, .int 3] (by simp) (by simp) (by intro x hx; simp at hx; rcases hx with h | h | h <;> subst h <;> rfl)
    obtain ⟨r3, d3, e3, a3, b3, dc3⟩ := roll_spec (k + 2) dc2 (by omega) 30 (by decide) (by decide)
    obtain ⟨x4, d4, e4, m4, dc4⟩ := pick_spec (k + 1) dc3 (by omega) [.int 1, .int 2, .int 3] (by simp) (by simp) (by intro x hx; simp at hx; rcases hx with h | h | h <;> subst h <;> rfl)
    obtain ⟨q1, rfl, u1, v1⟩ := one23 m2
    obtain ⟨q2, rfl, u2, v2⟩ := one23 m4
    obtain ⟨N1, D1, g1, s1, t1, w1, y1, z1⟩ := share_spec (k + 2) (r1 - 15) q1 u1 (by omega)
    obtain ⟨N2, D2, g2, s2, t2, w2, y2, z2⟩ := share_spec (k + 2) (r3 - 15) q2 u2 (by omega)
    have nN1 : N1.natAbs ≤ 30 := part_le w1 y1 (by omega)
    have nD1 : D1.natAbs ≤ 30 := part_le w1 z1 (by omega)
    have nN2 : N2.natAbs ≤ 30 := part_le w2 y2 (by omega)
    have nD2 : D2.natAbs ≤ 30 := part_le w2 z2 (by omega)
    have sN1 := sm_nat 30 nN1 (by decide)
    have sD1 := sm_nat 30 nD1 (by decide)
    have sN2 := sm_nat 30 nN2 (by decide)
    have sD2 := sm_nat 30 nD2 (by decide)
    obtain ⟨N3, D3, g3, s3, t3, w3, y3, z3⟩ := plus_spec (k + 1) t1 t2 (by omega) (by omega) sN1 sN2
    have nN3 : N3.natAbs ≤ 2000 := part_le w3 y3 (by
      have h1 : (N1 * D2).natAbs ≤ 900 := by rw [Int.natAbs_mul]; exact Nat.mul_le_mul nN1 nD2
      have h2 : (N2 * D1).natAbs ≤ 900 := by rw [Int.natAbs_mul]; exact Nat.mul_le_mul nN2 nD1
      omega)
    have nD3 : D3.natAbs ≤ 2000 := part_le w3 z3 (by
      have h1 : (D1 * D2).natAbs ≤ 900 := by rw [Int.natAbs_mul]; exact Nat.mul_le_mul nD1 nD2
      omega)
    have le70 : 10 ^ 64 + 10 ^ 64 + 1 ≤ 10 ^ 70 := by decide +kernel
    have hx1 := E_law_holds (k + 3) N1 D1 x sN1 sD1 (bd_sm hx (by omega))
    have hx2 := E_law_holds (k + 3) N2 D2 y sN2 sD2 (bd_sm hy (by omega))
    have hx3 := E_law_holds (k + 3) N3 D3 (addO x y) (sm_nat 2000 nN3 (by decide)) (sm_nat 2000 nD3 (by decide)) (bd_sm (bd_addO hx hy) le70)
    have key := holds_sum (x := x) (y := y) t1 t2 w3 y3 z3
    have o0 := dc0.own
    have o1 := dc1.own
    have o2 := dc2.own
    have o3 := dc3.own
    have o4' := dc4.own
    have e1' : lev cM cT (k + 4) "_law_roll" [d0, .int 30] = .ok (.int r1, [some d1, none]) := e1
    have e2' : lev cM cT (k + 4) "_law_pick" [d1, .lst .fro [.int 1, .int 2, .int 3]] = .ok (.int q1, [some d2, none]) := e2
    have e3' : lev cM cT (k + 4) "_law_roll" [d2, .int 30] = .ok (.int r3, [some d3, none]) := e3
    have e4' : lev cM cT (k + 4) "_law_pick" [d3, .lst .fro [.int 1, .int 2, .int 3]] = .ok (.int q2, [some d4, none]) := e4
    have s1' : lev cM cT (k + 4) "_law_share" [.int (r1 - 15), .int q1] = .ok (.tup [.int N1, .int D1], [none, none]) := s1
    have s2' : lev cM cT (k + 4) "_law_share" [.int (r3 - 15), .int q2] = .ok (.tup [.int N2, .int D2], [none, none]) := s2
    have s3' : lev cM cT (k + 4) "_law_plus" [.tup [.int N1, .int D1], .tup [.int N2, .int D2]] = .ok (.tup [.int N3, .int D3], [none, none]) := s3
    have hx1' : lev cM cT (k + 4) "_law_holds" [.tup [.int N1, .int D1], oD x] = .ok (.bl (holdsM N1 D1 x), [none, none]) := hx1
    have hx2' : lev cM cT (k + 4) "_law_holds" [.tup [.int N2, .int D2], oD y] = .ok (.bl (holdsM N2 D2 y), [none, none]) := hx2
    have hx3' : lev cM cT (k + 4) "_law_holds" [.tup [.int N3, .int D3], oD (addO x y)] = .ok (.bl (holdsM N3 D3 (addO x y)), [none, none]) := hx3
    have dc4' : Dice (m + 4 * (0 + j + 1)) d4 := by
      have : m + 4 * (0 + j) + 1 + 1 + 1 + 1 = m + 4 * (0 + j + 1) := by omega
      rw [← this]; exact dc4
    have c5 : ([0] : List Nat).contains 5 = false := by decide
    have c6 : ([0] : List Nat).contains 6 = false := by decide
    have n5 : (5 : Nat) < 7 := by decide
    have n6 : (6 : Nat) < 7 := by decide
    have l3 := lenOk3
    generalize holdsM N1 D1 x = b1 at hx1' key
    generalize holdsM N2 D2 y = b2 at hx2' key
    generalize holdsM N3 D3 (addO x y) = b3 at hx3' key
    clear e1 e2 e3 e4 s1 s2 s3 hx1 hx2 hx3 dc0 dc1 dc2 dc3 dc4 hx hy le70 nN1 nN2 nN3 nD1 nD2 nD3 sN1 sN2 sD1 sD2 t1 t2 t3 w1 w2 w3 y1 y2 y3 z1 z2 z3 m2 m4 hj6 a1 a3 u1 u2 v1 v2
    refine ⟨[some d0, some (oD x), some (oD y), some (oD (addO x y)), some t, o5, o6], [some d4, some (oD x), some (oD y), some (oD (addO x y)), some t, some (.tup [.int N1, .int D1]), some (.tup [.int N2, .int D2])], ?_, .inl ?_, d4, _, _, _, rfl, dc4'⟩
    · clear hj
      walk_at "ev _law_holds_sum"
    · clear hj
      walk_at "ev _law_holds_sum"
      cases b1 with
      | false => walk_at "ev _law_holds_sum"
      | true =>
        cases b2 with
        | false => walk_at "ev _law_holds_sum"
        | true =>
          have k3 := key rfl rfl
          subst k3
          walk_at "ev _law_holds_sum"
  · obtain ⟨d', o4, o5, o6, e1, e2⟩ := hh.2
    exact ⟨d', o4, o5, o6, by rw [e1], by simpa [rgD_length] using e2⟩
  · rintro a ⟨d', o4, o5, o6, rfl, dc⟩
    have od' := dc.own
    refine ⟨d', ?_, dc⟩
    clear h dc
    walk_at "ev _law_holds_sum"
end K19

set_option Elab.async false
set_option linter.all false
set_option maxRecDepth 100000
set_option maxHeartbeats 400000
namespace K19
open PySem L2 Ev
local macro_rules | `(tactic| walk_at "go is_table_in") => `(tactic| (rw [lev_eq (f := d_is_table_in) (by rfl) rfl, en_is_table_in]; have hb : defBody d_is_table_in.st = defBody d_is_table_in.st := rfl; (conv at hb => (rhs; whnf)); rw [hb]; clear hb))
local macro_rules | `(tactic| walk_at "ev is_table_in") => `(tactic| simp (dsimp := false) (decide := true) only [↓bin_eq, orT_s, orT_n, ↓to_bnd, wp_ok, bnd_assoc, bnd_ok, bnd_st, ↓to_lcF, ↓to_forF, ↓to_whileF, b_addT, b_addLo, b_addLf, pl_nil, pl_cons, plO_s, plO_n, c_hanc, evSs_seq, evSs_end, seq_nx, seq_rt, seq_bk, seq_ct, seq_bnd, bnd_seq, seq_for, seq_while, fin_nx, fin_rt, asgNs_nil, asgNs_cons, asgEa_nil, asgEa_nam, asgEa_sub, isOL_own, pp_0, List.cons_append, take_hn, ow_dfro, ow_dext, takeF_v, takeF_h, free_nil, free_cons, wipe_nil, wipe_cons, back_eq, patch_nil, patch_cons, li_3, li_4, li_5, li_6, li_7, frz_fro, frz_ext, frz_own, frz_non, frz_bl, frz_str, evS, ownOf, List.filterMap_cons, List.filterMap_nil, List.map_cons, List.map_nil, Option.map_some, Option.map_none, asgT, asgI, pp_1, List.nil_append, lenOk2, frzL_nil, frzL_cons, frz_tup, Int.mul_one, plainIx, intE, itE_t, itE_l, item_0, item_1, item_2, li_0, li_1, li_2, asgXs, takes_nil, takes_cons, swap, namesOn, headLine, Expr.pos, ed2, ed3, foldedForSure, constantsAlone, List.all_cons, List.all_nil, List.length_cons, List.length_nil, Nat.reduceAdd, Nat.reduceBEq, Nat.reduceBNe, Bool.or_true, Bool.or_false, Bool.true_or, Bool.false_or, beq_self_eq_true, bne_self_eq_false, List.set_cons_zero, List.set_cons_succ, evT, evTs, evE, evO, evA, evB, evP, evF, evI, evW, ofO_s, c_val, c_han, g_0, g_s, sole_v, sole_h, take_v, ow_non, ow_bl, ow_int, ow_str, ow_tup, ow_own, ow_fro, ow_ext, ow_ty, ow_fn, ow_dic, b_add, b_sub, b_mod, b_div, b_mul, n_non, n_bl, n_int, n_str, n_tup, n_lst, n_dic, m_is, m_isnot, m_lt, m_le, m_gt, m_ge, m_eq, m_ne, q_int, q_non1, q_non2, q_bl, t_bl, t_int, t_non, t_tup, t_lst, s_and, s_or, plainOp, gOf_N, gOf_bor, sub_N, name_eq, asgN_eq, call_eq, lend_nil, lend_val, lend_han, gb_nil, gb_none, gb_some, noStar, Bool.false_eq_true, if_false, if_true, Bool.not_true, Bool.not_false, outsOf, decide_true, decide_false, Bool.true_and, Bool.and_true, Bool.false_and, Bool.and_false, reduceCtorEq, Option.map_some, frz, frz_int, contents_nil, contents_cons, bl_int, bl_bl, bl_lenT, bl_lenL, bl_abs, bl_max, bl_min, bl_listT, bl_listL, bl_tupT, bl_tupL, bl_any, bl_all, is_int, is_ty, is_non_int, is_non_bool, is_non_tuple, is_non_list, is_non_str, is_non_dict, is_bl_int, is_bl_bool, is_bl_tuple, is_bl_list, is_bl_str, is_bl_dict, is_int_bool, is_int_tuple, is_int_list, is_int_str, is_int_dict, is_str_int, is_str_bool, is_str_tuple, is_str_list, is_str_str, is_str_dict, is_tup_int, is_tup_bool, is_tup_tuple, is_tup_list, is_tup_str, is_tup_dict, is_lst_int, is_lst_bool, is_lst_tuple, is_lst_list, is_lst_str, is_lst_dict, is_dic_int, is_dic_bool, is_dic_tuple, is_dic_list, is_dic_str, is_dic_dict, l_is_table_in_dot0, l_is_table_in_all, w_is_table_in_all, l_is_table_in_size, v_is_table_in_size, o_is_table_in_size, l_is_table_in_isinstance, w_is_table_in_isinstance, l_is_table_in_value, v_is_table_in_value, o_is_table_in_value, l_is_table_in_tuple, w_is_table_in_tuple, l_is_table_in_len, w_is_table_in_len, l_is_table_in_row, l_is_table_in_is_bound_marks, l_is_table_in_one, k_all, g_all, f_all, b_all, r_all, e_all, k_is_bound_marks, g_is_bound_marks, r_is_bound_marks, e_is_bound_marks, k_isinstance, g_isinstance, f_isinstance, b_isinstance, r_isinstance, e_isinstance, k_len, g_len, f_len, b_len, r_len, e_len, k_tuple, g_tuple, f_tuple, b_tuple, y_tuple, r_tuple, e_tuple, *])
/-- a comprehension whose items are all kept -/
theorem lcL_map {vs : List Nat} {asg : D → En → R En} {test : En → R (Bool × En)} {elt : En → R (D × En)} (Q : En → Prop) (f : D → D) : ∀ (ds acc : List D) (e : En), (∀ d ∈ ds, ∀ e, Q e → ∃ e1 e2 e3, asg d (wipeE e vs) = .ok e1 ∧ test e1 = .ok (true, e2) ∧ elt e2 = .ok (f d, e3) ∧ Q e3) → Q e → acc.length + ds.length ≤ sizeLine →
    ∃ e', lcL vs asg test elt ds acc e = .ok (acc ++ ds.map f, e') ∧ Q e'
  | [], acc, e, _, h, _ => ⟨e, by simp [lcL], h⟩
  | d :: ds, acc, e, st, h, hl => by
    obtain ⟨e1, e2, e3, q1, q2, q3, q4⟩ := st d List.mem_cons_self e h
    have hlt : acc.length < sizeLine := by simp only [List.length_cons] at hl; omega
    obtain ⟨e', r1, r2⟩ := lcL_map Q f ds (acc ++ [f d]) e3 (fun d' hd => st d' (List.mem_cons_of_mem _ hd)) q4 (by simp only [List.length_append, List.length_cons, List.length_nil] at hl ⊢; omega)
    refine ⟨e', ?_, r2⟩
    simp only [lcL, q1, q2, q3, bind_ok, if_true, hlt]
    rw [r1]
    simp
/-- items that are kept or not -/
theorem lcL_filter {vs : List Nat} {asg : D → En → R En} {test : En → R (Bool × En)} {elt : En → R (D × En)} (Q : En → Prop) (g : D → Bool) (f : D → D) : ∀ (ds acc : List D) (e : En), (∀ d ∈ ds, ∀ e, Q e → ∃ e1 e2, asg d (wipeE e vs) = .ok e1 ∧ test e1 = .ok (g d, e2) ∧ Q e2 ∧ (g d = true → ∃ e3, elt e2 = .ok (f d, e3) ∧ Q e3)) → Q e → acc.length + ds.length ≤ sizeLine →
    ∃ e', lcL vs asg test elt ds acc e = .ok (acc ++ (ds.filter g).map f, e') ∧ Q e'
  | [], acc, e, _, h, _ => ⟨e, by simp [lcL], h⟩
  | d :: ds, acc, e, st, h, hl => by
    obtain ⟨e1, e2, q1, q2, q3, q4⟩ := st d List.mem_cons_self e h
    have hlt : acc.length < sizeLine := by simp only [List.length_cons] at hl; omega
    by_cases hg : g d = true
    · obtain ⟨e3, q5, q6⟩ := q4 hg
      obtain ⟨e', r1, r2⟩ := lcL_filter Q g f ds (acc ++ [f d]) e3 (fun d' hd => st d' (List.mem_cons_of_mem _ hd)) q6 (by simp only [List.length_append, List.length_cons, List.length_nil] at hl ⊢; omega)
      refine ⟨e', ?_, r2⟩
      simp only [lcL, q1, q2, q5, hg, bind_ok, if_true, hlt]
      rw [r1]
      simp [List.filter_cons, hg]
    · obtain ⟨e', r1, r2⟩ := lcL_filter Q g f ds acc e2 (fun d' hd => st d' (List.mem_cons_of_mem _ hd)) q3 (by simp only [List.length_cons] at hl ⊢; omega)
      refine ⟨e', ?_, r2⟩
      have hg' : g d = false := by simpa using hg
      simp only [lcL, q1, q2, hg', bind_ok, Bool.false_eq_true, if_false]
      rw [r1]
      simp [List.filter_cons, hg']
/-- what a comprehension's test of a row says -/
def rowOk (n : Int) : D → Bool
  | .tup xs => decide ((xs.length : Int) = n) && xs.all isB
  | _ => false
def isTab (n : Int) : D → Bool
  | .tup rows => decide ((rows.length : Int) = n) && rows.all (rowOk n)
  | _ => false
theorem bor_none {d : D} {i : Int} (h : owned d = false) : borOf [D.int i, d] = [] := by
  unfold borOf
  simp [h, List.range_succ, ow_int]
def ok0 (d : D) : Prop := (tyOf d).isSome = true
def okR (d : D) : Prop := ok0 d ∧ ∀ xs, d = .tup xs → xs.length ≤ 1000 ∧ ∀ x ∈ xs, ok0 x
def okT (d : D) : Prop := ok0 d ∧ ∀ rows, d = .tup rows → rows.length ≤ 1000 ∧ ∀ r ∈ rows, okR r
theorem isB_own {d : D} (h : isB d = true) : owned d = false := by cases d <;> first | rfl | cases h
theorem bools_all {g : D → Bool} : ∀ ds : List D, bools (ds.map fun d => .bl (g d)) = some (ds.map g)
  | [] => rfl
  | d :: r => by simp only [List.map_cons, bools, bools_all r]
theorem bor_ni {d : D} {i : Int} : borOf [D.int i, d] = if owned d then [1] else [] := by
  unfold borOf
  by_cases h : owned d <;> simp [h, List.range_succ, ow_int]
theorem is_table_in_tup (k : Nat) (n : Int) (rows : List D) (h : okT (.tup rows)) : lev cM cT (k + 4) "is_table_in" [.int n, .tup rows] = .ok (.bl (isTab n (.tup rows)), [none, none]) := by
  have hb : borOf [D.int n, .tup rows] = [] := bor_none rfl
  walk_at "go is_table_in"
  simp only [hb]
  clear hb
  obtain ⟨_, h⟩ := h
  obtain ⟨hl, h⟩ := h rows rfl
  apply wp_eq
  by_cases hn : (rows.length : Int) = n
  · walk_at "ev is_table_in"
    refine lc_map (fun e => ∃ o3, e = [some (.int n), some (.tup rows), none, o3]) (fun d => .bl (rowOk n d)) (Nat.le_trans hl (by decide)) ⟨_, rfl⟩ ?_ ?_
    · rintro d hd e ⟨o3, rfl⟩
      obtain ⟨h0, h1⟩ := h d hd
      clear h
      cases d with
      | tup xs =>
        obtain ⟨hx, h2⟩ := h1 xs rfl
        clear h1
        by_cases hm : (xs.length : Int) = n
        · walk_at "ev is_table_in"
          refine lc_map (fun e => ∃ o2, e = [some (.int n), some (.tup rows), o2, some (.tup xs)]) (fun d => .bl (isB d)) (Nat.le_trans hx (by decide)) ⟨_, rfl⟩ ?_ ?_
          · rintro x hx e ⟨o2, rfl⟩
            have h3 := E_is_bound_marks (k + 1) x (h2 x hx)
            unfold back1 at h3
            clear h2
            by_cases ho : owned x = true
            · simp only [ho, if_true] at h3
              walk_at "ev is_table_in"
              simp
            · have ho : owned x = false := by simpa using ho
              have hf := frz_bare ho
              simp only [ho, if_false, Bool.false_eq_true] at h3
              walk_at "ev is_table_in"
              simp
          · rintro e ⟨o2, rfl⟩
            have hb := bl_all (m := .own) (bools_all (g := isB) xs)
            walk_at "ev is_table_in"
            simp [rowOk, hm, List.all_map, Function.comp_def]
        · walk_at "ev is_table_in"
          simp [rowOk, hm]
      | lst m ds => cases m <;> (walk_at "ev is_table_in"; simp [rowOk])
      | dic m ks ds => cases m <;> (walk_at "ev is_table_in"; simp [rowOk])
      | fn x => cases h0
      | ty n => cases h0
      | _ => (walk_at "ev is_table_in"; simp [rowOk])
    · rintro e ⟨o3, rfl⟩
      have hb := bl_all (m := .own) (bools_all (g := rowOk n) rows)
      walk_at "ev is_table_in"
      simp [isTab, hn, List.all_map, Function.comp_def]
  · walk_at "ev is_table_in"
    simp [isTab, hn]
theorem E_is_table_in (k : Nat) (n : Int) (d : D) (h : okT d) : lev cM cT (k + 4) "is_table_in" [.int n, d] = .ok (.bl (isTab n d), [none, back1 d]) := by
  cases d with
  | tup rows => exact is_table_in_tup k n rows h
  | lst m ds => cases m <;> kernel_rfl
  | dic m ks ds => cases m <;> kernel_rfl
  | fn x => cases h.1
  | ty n => cases h.1
  | _ => kernel_rfl
end K19

set_option Elab.async false
set_option linter.all false
set_option maxRecDepth 100000
set_option maxHeartbeats 1000000
namespace K19
open PySem L2 Ev
local macro_rules | `(tactic| walk_at "go is_table_value") => `(tactic| (rw [lev_eq (f := d_is_table_value) (by rfl) rfl, en_is_table_value]; have hb : defBody d_is_table_value.st = defBody d_is_table_value.st := rfl; (conv at hb => (rhs; whnf)); rw [hb]; clear hb))
local macro_rules | `(tactic| walk_at "ev is_table_value") => `(tactic| simp (dsimp := false) (decide := true) only [↓bin_eq, orT_s, orT_n, ↓to_bnd, wp_ok, bnd_assoc, bnd_ok, bnd_st, ↓to_lcF, ↓to_forF, ↓to_whileF, b_addT, b_addLo, b_addLf, pl_nil, pl_cons, plO_s, plO_n, c_hanc, evSs_seq, evSs_end, seq_nx, seq_rt, seq_bk, seq_ct, seq_bnd, bnd_seq, seq_for, seq_while, fin_nx, fin_rt, asgNs_nil, asgNs_cons, asgEa_nil, asgEa_nam, asgEa_sub, isOL_own, pp_0, List.cons_append, take_hn, ow_dfro, ow_dext, takeF_v, takeF_h, free_nil, free_cons, wipe_nil, wipe_cons, back_eq, patch_nil, patch_cons, li_3, li_4, li_5, li_6, li_7, frz_fro, frz_ext, frz_own, frz_non, frz_bl, frz_str, evS, ownOf, List.filterMap_cons, List.filterMap_nil, List.map_cons, List.map_nil, Option.map_some, Option.map_none, asgT, asgI, pp_1, List.nil_append, lenOk2, frzL_nil, frzL_cons, frz_tup, Int.mul_one, plainIx, intE, itE_t, itE_l, item_0, item_1, item_2, li_0, li_1, li_2, asgXs, takes_nil, takes_cons, swap, namesOn, headLine, Expr.pos, ed2, ed3, foldedForSure, constantsAlone, List.all_cons, List.all_nil, List.length_cons, List.length_nil, Nat.reduceAdd, Nat.reduceBEq, Nat.reduceBNe, Bool.or_true, Bool.or_false, Bool.true_or, Bool.false_or, beq_self_eq_true, bne_self_eq_false, List.set_cons_zero, List.set_cons_succ, evT, evTs, evE, evO, evA, evB, evP, evF, evI, evW, ofO_s, c_val, c_han, g_0, g_s, sole_v, sole_h, take_v, ow_non, ow_bl, ow_int, ow_str, ow_tup, ow_own, ow_fro, ow_ext, ow_ty, ow_fn, ow_dic, b_add, b_sub, b_mod, b_div, b_mul, n_non, n_bl, n_int, n_str, n_tup, n_lst, n_dic, m_is, m_isnot, m_lt, m_le, m_gt, m_ge, m_eq, m_ne, q_int, q_non1, q_non2, q_bl, t_bl, t_int, t_non, t_tup, t_lst, s_and, s_or, plainOp, gOf_N, gOf_bor, sub_N, name_eq, asgN_eq, call_eq, lend_nil, lend_val, lend_han, gb_nil, gb_none, gb_some, noStar, Bool.false_eq_true, if_false, if_true, Bool.not_true, Bool.not_false, outsOf, decide_true, decide_false, Bool.true_and, Bool.and_true, Bool.false_and, Bool.and_false, reduceCtorEq, Option.map_some, frz, frz_int, contents_nil, contents_cons, bl_int, bl_bl, bl_lenT, bl_lenL, bl_abs, bl_max, bl_min, bl_listT, bl_listL, bl_tupT, bl_tupL, bl_any, bl_all, is_int, is_ty, is_non_int, is_non_bool, is_non_tuple, is_non_list, is_non_str, is_non_dict, is_bl_int, is_bl_bool, is_bl_tuple, is_bl_list, is_bl_str, is_bl_dict, is_int_bool, is_int_tuple, is_int_list, is_int_str, is_int_dict, is_str_int, is_str_bool, is_str_tuple, is_str_list, is_str_str, is_str_dict, is_tup_int, is_tup_bool, is_tup_tuple, is_tup_list, is_tup_str, is_tup_dict, is_lst_int, is_lst_bool, is_lst_tuple, is_lst_list, is_lst_str, is_lst_dict, is_dic_int, is_dic_bool, is_dic_tuple, is_dic_list, is_dic_str, is_dic_dict, l_is_table_value_isinstance, w_is_table_value_isinstance, l_is_table_value_value, v_is_table_value_value, o_is_table_value_value, l_is_table_value_tuple, w_is_table_value_tuple, l_is_table_value_MOST_THINGS, w_is_table_value_MOST_THINGS, l_is_table_value_is_table_in, w_is_table_value_is_table_in, l_is_table_value_len, w_is_table_value_len, k_MOST_THINGS, r_MOST_THINGS, e_MOST_THINGS, k_is_table_in, g_is_table_in, r_is_table_in, e_is_table_in, k_isinstance, g_isinstance, f_isinstance, b_isinstance, r_isinstance, e_isinstance, k_len, g_len, f_len, b_len, r_len, e_len, k_tuple, g_tuple, f_tuple, b_tuple, y_tuple, r_tuple, e_tuple, *])
local macro_rules | `(tactic| walk_at "go is_table") => `(tactic| (rw [lev_eq (f := d_is_table) (by rfl) rfl, en_is_table]; have hb : defBody d_is_table.st = defBody d_is_table.st := rfl; (conv at hb => (rhs; whnf)); rw [hb]; clear hb))
local macro_rules | `(tactic| walk_at "ev is_table") => `(tactic| simp (dsimp := false) (decide := true) only [↓bin_eq, orT_s, orT_n, ↓to_bnd, wp_ok, bnd_assoc, bnd_ok, bnd_st, ↓to_lcF, ↓to_forF, ↓to_whileF, b_addT, b_addLo, b_addLf, pl_nil, pl_cons, plO_s, plO_n, c_hanc, evSs_seq, evSs_end, seq_nx, seq_rt, seq_bk, seq_ct, seq_bnd, bnd_seq, seq_for, seq_while, fin_nx, fin_rt, asgNs_nil, asgNs_cons, asgEa_nil, asgEa_nam, asgEa_sub, isOL_own, pp_0, List.cons_append, take_hn, ow_dfro, ow_dext, takeF_v, takeF_h, free_nil, free_cons, wipe_nil, wipe_cons, back_eq, patch_nil, patch_cons, li_3, li_4, li_5, li_6, li_7, frz_fro, frz_ext, frz_own, frz_non, frz_bl, frz_str, evS, ownOf, List.filterMap_cons, List.filterMap_nil, List.map_cons, List.map_nil, Option.map_some, Option.map_none, asgT, asgI, pp_1, List.nil_append, lenOk2, frzL_nil, frzL_cons, frz_tup, Int.mul_one, plainIx, intE, itE_t, itE_l, item_0, item_1, item_2, li_0, li_1, li_2, asgXs, takes_nil, takes_cons, swap, namesOn, headLine, Expr.pos, ed2, ed3, foldedForSure, constantsAlone, List.all_cons, List.all_nil, List.length_cons, List.length_nil, Nat.reduceAdd, Nat.reduceBEq, Nat.reduceBNe, Bool.or_true, Bool.or_false, Bool.true_or, Bool.false_or, beq_self_eq_true, bne_self_eq_false, List.set_cons_zero, List.set_cons_succ, evT, evTs, evE, evO, evA, evB, evP, evF, evI, evW, ofO_s, c_val, c_han, g_0, g_s, sole_v, sole_h, take_v, ow_non, ow_bl, ow_int, ow_str, ow_tup, ow_own, ow_fro, ow_ext, ow_ty, ow_fn, ow_dic, b_add, b_sub, b_mod, b_div, b_mul, n_non, n_bl, n_int, n_str, n_tup, n_lst, n_dic, m_is, m_isnot, m_lt, m_le, m_gt, m_ge, m_eq, m_ne, q_int, q_non1, q_non2, q_bl, t_bl, t_int, t_non, t_tup, t_lst, s_and, s_or, plainOp, gOf_N, gOf_bor, sub_N, name_eq, asgN_eq, call_eq, lend_nil, lend_val, lend_han, gb_nil, gb_none, gb_some, noStar, Bool.false_eq_true, if_false, if_true, Bool.not_true, Bool.not_false, outsOf, decide_true, decide_false, Bool.true_and, Bool.and_true, Bool.false_and, Bool.and_false, reduceCtorEq, Option.map_some, frz, frz_int, contents_nil, contents_cons, bl_int, bl_bl, bl_lenT, bl_lenL, bl_abs, bl_max, bl_min, bl_listT, bl_listL, bl_tupT, bl_tupL, bl_any, bl_all, is_int, is_ty, is_non_int, is_non_bool, is_non_tuple, is_non_list, is_non_str, is_non_dict, is_bl_int, is_bl_bool, is_bl_tuple, is_bl_list, is_bl_str, is_bl_dict, is_int_bool, is_int_tuple, is_int_list, is_int_str, is_int_dict, is_str_int, is_str_bool, is_str_tuple, is_str_list, is_str_str, is_str_dict, is_tup_int, is_tup_bool, is_tup_tuple, is_tup_list, is_tup_str, is_tup_dict, is_lst_int, is_lst_bool, is_lst_tuple, is_lst_list, is_lst_str, is_lst_dict, is_dic_int, is_dic_bool, is_dic_tuple, is_dic_list, is_dic_str, is_dic_dict, l_is_table_is_table_value, w_is_table_is_table_value, l_is_table_value, v_is_table_value, o_is_table_value, k_is_table_value, g_is_table_value, r_is_table_value, e_is_table_value, *])
local macro_rules | `(tactic| walk_at "go _law_is_table") => `(tactic| (rw [lev_eq (f := d__law_is_table) (by rfl) rfl, en__law_is_table]; have hb : defBody d__law_is_table.st = defBody d__law_is_table.st := rfl; (conv at hb => (rhs; whnf)); rw [hb]; clear hb))
local macro_rules | `(tactic| walk_at "ev _law_is_table") => `(tactic| simp (dsimp := false) (decide := true) only [↓bin_eq, orT_s, orT_n, ↓to_bnd, wp_ok, bnd_assoc, bnd_ok, bnd_st, ↓to_lcF, ↓to_forF, ↓to_whileF, b_addT, b_addLo, b_addLf, pl_nil, pl_cons, plO_s, plO_n, c_hanc, evSs_seq, evSs_end, seq_nx, seq_rt, seq_bk, seq_ct, seq_bnd, bnd_seq, seq_for, seq_while, fin_nx, fin_rt, asgNs_nil, asgNs_cons, asgEa_nil, asgEa_nam, asgEa_sub, isOL_own, pp_0, List.cons_append, take_hn, ow_dfro, ow_dext, takeF_v, takeF_h, free_nil, free_cons, wipe_nil, wipe_cons, back_eq, patch_nil, patch_cons, li_3, li_4, li_5, li_6, li_7, frz_fro, frz_ext, frz_own, frz_non, frz_bl, frz_str, evS, ownOf, List.filterMap_cons, List.filterMap_nil, List.map_cons, List.map_nil, Option.map_some, Option.map_none, asgT, asgI, pp_1, List.nil_append, lenOk2, frzL_nil, frzL_cons, frz_tup, Int.mul_one, plainIx, intE, itE_t, itE_l, item_0, item_1, item_2, li_0, li_1, li_2, asgXs, takes_nil, takes_cons, swap, namesOn, headLine, Expr.pos, ed2, ed3, foldedForSure, constantsAlone, List.all_cons, List.all_nil, List.length_cons, List.length_nil, Nat.reduceAdd, Nat.reduceBEq, Nat.reduceBNe, Bool.or_true, Bool.or_false, Bool.true_or, Bool.false_or, beq_self_eq_true, bne_self_eq_false, List.set_cons_zero, List.set_cons_succ, evT, evTs, evE, evO, evA, evB, evP, evF, evI, evW, ofO_s, c_val, c_han, g_0, g_s, sole_v, sole_h, take_v, ow_non, ow_bl, ow_int, ow_str, ow_tup, ow_own, ow_fro, ow_ext, ow_ty, ow_fn, ow_dic, b_add, b_sub, b_mod, b_div, b_mul, n_non, n_bl, n_int, n_str, n_tup, n_lst, n_dic, m_is, m_isnot, m_lt, m_le, m_gt, m_ge, m_eq, m_ne, q_int, q_non1, q_non2, q_bl, t_bl, t_int, t_non, t_tup, t_lst, s_and, s_or, plainOp, gOf_N, gOf_bor, sub_N, name_eq, asgN_eq, call_eq, lend_nil, lend_val, lend_han, gb_nil, gb_none, gb_some, noStar, Bool.false_eq_true, if_false, if_true, Bool.not_true, Bool.not_false, outsOf, decide_true, decide_false, Bool.true_and, Bool.and_true, Bool.false_and, Bool.and_false, reduceCtorEq, Option.map_some, frz, frz_int, contents_nil, contents_cons, bl_int, bl_bl, bl_lenT, bl_lenL, bl_abs, bl_max, bl_min, bl_listT, bl_listL, bl_tupT, bl_tupL, bl_any, bl_all, is_int, is_ty, is_non_int, is_non_bool, is_non_tuple, is_non_list, is_non_str, is_non_dict, is_bl_int, is_bl_bool, is_bl_tuple, is_bl_list, is_bl_str, is_bl_dict, is_int_bool, is_int_tuple, is_int_list, is_int_str, is_int_dict, is_str_int, is_str_bool, is_str_tuple, is_str_list, is_str_str, is_str_dict, is_tup_int, is_tup_bool, is_tup_tuple, is_tup_list, is_tup_str, is_tup_dict, is_lst_int, is_lst_bool, is_lst_tuple, is_lst_list, is_lst_str, is_lst_dict, is_dic_int, is_dic_bool, is_dic_tuple, is_dic_list, is_dic_str, is_dic_dict, l__law_is_table_dot0, l__law_is_table_row, v__law_is_table_row, o__law_is_table_row, l__law_is_table_value, v__law_is_table_value, o__law_is_table_value, l__law_is_table_isinstance, w__law_is_table_isinstance, l__law_is_table_tuple, w__law_is_table_tuple, l__law_is_table_one, l__law_is_table_len, w__law_is_table_len, l__law_is_table__law_is_whole, k__law_is_whole, g__law_is_whole, r__law_is_whole, e__law_is_whole, k_isinstance, g_isinstance, f_isinstance, b_isinstance, r_isinstance, e_isinstance, k_len, g_len, f_len, b_len, r_len, e_len, k_tuple, g_tuple, f_tuple, b_tuple, y_tuple, r_tuple, e_tuple, *])
def isTbl (d : D) : Bool := match d with
  | .tup rows => decide (1 ≤ rows.length) && decide (rows.length ≤ 6) && rows.all (rowOk rows.length)
  | _ => false
theorem bor_1 {d : D} : borOf [d] = if owned d then [0] else [] := by
  unfold borOf
  by_cases h : owned d <;> simp [h, List.range_succ]
theorem E_is_table_value (k : Nat) (d : D) (h : okT d) : lev cM cT (k + 5) "is_table_value" [d] = .ok (.bl (isTbl d), [back1 d]) := by
  cases d with
  | tup rows =>
    have h1 := fun n => E_is_table_in k n (.tup rows) h
    have hb : borOf [D.tup rows] = [] := rfl
    have hk : back1 (.tup rows) = none := rfl
    obtain ⟨_, h⟩ := h
    obtain ⟨hl, _⟩ := h rows rfl
    clear h
    walk_at "go is_table_value"
    simp only [hb, hk] at h1 ⊢
    clear hb hk
    apply wp_eq
    by_cases c1 : (1 : Int) ≤ (rows.length : Int)
    · by_cases c2 : (rows.length : Int) ≤ 6
      · walk_at "ev is_table_value"
        have c1' : 1 ≤ rows.length := by omega
        have c2' : rows.length ≤ 6 := by omega
        simp [isTbl, isTab, c1', c2']
      · walk_at "ev is_table_value"
        have c2' : ¬ rows.length ≤ 6 := by omega
        simp [isTbl, c2']
    · walk_at "ev is_table_value"
      have c1' : ¬ 1 ≤ rows.length := by omega
      simp [isTbl]
      omega
  | lst m ds => cases m <;> kernel_rfl
  | dic m ks ds => cases m <;> kernel_rfl
  | fn x => cases h.1
  | ty n => cases h.1
  | _ => kernel_rfl
theorem E_is_table (k : Nat) (d : D) (h : okT d) (ho : owned d = false) : lev cM cT (k + 6) "is_table" [d] = .ok (.bl (isTbl d), [none]) := by
  have h1 := E_is_table_value k d h
  have hb : borOf [d] = [] := by rw [bor_1, ho]; rfl
  have hf := frz_bare ho
  unfold back1 at h1
  simp only [ho, Bool.false_eq_true, if_false] at h1
  clear h
  walk_at "go is_table"
  simp only [hb]
  clear hb
  apply wp_eq
  walk_at "ev is_table"
/-- data that can be compared -/
def nc (n : Nat) (d : D) : Prop := ∃ p, toPy d = some p ∧ p.canLay0 = true ∧ p.depth ≤ n
theorem nc_list (n : Nat) : ∀ ds : List D, (∀ x ∈ ds, nc n x) → ∃ ps, toPyL ds = some ps ∧ PyData.canLayAll0 ps = true ∧ PyData.depthAll ps ≤ n
  | [], _ => ⟨[], rfl, by simp [PyData.canLayAll0], by simp [PyData.depthAll]⟩
  | d :: ds, h => by
    obtain ⟨p, h1, h2, h3⟩ := h d List.mem_cons_self
    obtain ⟨ps, q1, q2, q3⟩ := nc_list n ds fun x hx => h x (List.mem_cons_of_mem _ hx)
    refine ⟨p :: ps, by simp only [toPyL, h1, q1], by simp only [PyData.canLayAll0, h2, q2, Bool.and_self], ?_⟩
    simp only [PyData.depthAll]
    omega
theorem nc_parts {n : Nat} : ∀ {ds : List D} {ps : List PyData}, toPyL ds = some ps → PyData.canLayAll0 ps = true → PyData.depthAll ps ≤ n → ∀ x ∈ ds, nc n x
  | [], _, _, _, _, x, hx => by cases hx
  | d :: ds, ps, h, hc, hd, x, hx => by
    simp only [toPyL] at h
    split at h
    · rename_i p ps' q1 q2
      cases h
      simp only [PyData.canLayAll0, Bool.and_eq_true, PyData.depthAll] at hc hd
      rcases List.mem_cons.mp hx with e | e
      · rw [e]; exact ⟨p, q1, hc.1, by omega⟩
      · exact nc_parts q2 hc.2 (by omega) x e
    · cases h
theorem nc_tup {n : Nat} {ds : List D} (h : nc (n + 1) (.tup ds)) : ∀ x ∈ ds, nc n x := by
  obtain ⟨p, h1, h2, h3⟩ := h
  simp only [toPy] at h1
  split at h1
  · rename_i ps q
    cases h1
    simp only [PyData.canLay0, PyData.depth] at h2 h3
    exact nc_parts q h2 (by omega)
  · cases h1
theorem nc_of_tup {n : Nat} {ds : List D} (h : ∀ x ∈ ds, nc n x) : nc (n + 1) (.tup ds) := by
  obtain ⟨ps, h1, h2, h3⟩ := nc_list n ds h
  exact ⟨.tuple ps, by simp only [toPy, h1], by simp only [PyData.canLay0, h2], by simp only [PyData.depth]; omega⟩
theorem nc_of_lst {n : Nat} {m : Mk} {ds : List D} (h : ∀ x ∈ ds, nc n x) : nc (n + 1) (.lst m ds) := by
  obtain ⟨ps, h1, h2, h3⟩ := nc_list n ds h
  exact ⟨.list ps, by simp only [toPy, h1], by simp only [PyData.canLay0, h2], by simp only [PyData.depth]; omega⟩
theorem nc_ty {n : Nat} {d : D} (h : nc n d) : ok0 d := by
  obtain ⟨p, h1, _⟩ := h
  cases d <;> first | rfl | simp [toPy] at h1
theorem nc_int {i : Int} : nc 1 (.int i) := ⟨.int i, rfl, by simp [PyData.canLay0], by simp [PyData.depth]⟩
theorem nc_non : nc 1 .non := ⟨.none, rfl, by simp [PyData.canLay0], by simp [PyData.depth]⟩
theorem nc_bl {b : Bool} : nc 1 (.bl b) := ⟨.bool b, rfl, by simp [PyData.canLay0], by simp [PyData.depth]⟩
theorem nc_mono {n m : Nat} {d : D} (h : nc n d) (l : n ≤ m) : nc m d := by
  obtain ⟨p, h1, h2, h3⟩ := h
  exact ⟨p, h1, h2, by omega⟩
theorem eqD_of {n : Nat} {a b : D} {p q : PyData} (h1 : toPy a = some p) (h2 : toPy b = some q) (c1 : p.canLay0 = true) (c2 : q.canLay0 = true) (d1 : p.depth ≤ 64) (d2 : q.depth ≤ 64) : eqD a b = some (PyData.eqv p q) := by
  unfold eqD
  rw [h1, h2]
  simp only [SeqAt.shaped, c1, c2, d1, d2, decide_true, Bool.and_self, if_true]
theorem eq_nil {m m' : Mk} {ds : List D} (h : ∀ x ∈ ds, nc 60 x) : eqD (.lst m ds) (.lst m' []) = some ds.isEmpty := by
  obtain ⟨ps, h1, h2, h3⟩ := nc_list 60 ds h
  rw [eqD_of (n := 61) (p := .list ps) (q := .list []) (by simp only [toPy, h1]) (by simp only [toPy, toPyL]) (by simp only [PyData.canLay0, h2]) (by simp [PyData.canLay0, PyData.canLayAll0]) (by simp only [PyData.depth]; omega) (by simp [PyData.depth, PyData.depthAll])]
  congr 1
  cases ds with
  | nil => simp only [toPyL, Option.some.injEq] at h1; subst h1; simp [PyData.eqv, PyData.eqvAll]
  | cons d ds =>
    simp only [toPyL] at h1
    split at h1
    · cases h1; simp [PyData.eqv, PyData.eqvAll]
    · cases h1
structure Val (d : D) : Prop where
  own : owned d = false
  nc : nc 62 d
  len : ∀ rows, d = .tup rows → rows.length ≤ 1000 ∧ ∀ r ∈ rows, ∀ xs, r = .tup xs → xs.length ≤ 1000 ∧ ∀ x ∈ xs, owned x = false
theorem Val.parts {rows xs : List D} {r : D} (v : Val (.tup rows)) (h : r ∈ rows) (e : r = .tup xs) : ∀ x ∈ xs, K19.nc 60 x := by
  have h1 := nc_tup v.nc r h
  rw [e] at h1
  exact nc_tup h1
theorem Val.okT {d : D} (v : Val d) : okT d := ⟨nc_ty v.nc, fun rows e => by
  subst e
  obtain ⟨l1, l2⟩ := v.len rows rfl
  exact ⟨l1, fun r hr => ⟨nc_ty (nc_tup v.nc r hr), fun xs e => ⟨(l2 r hr xs e).1, fun x hx => nc_ty (v.parts hr e x hx)⟩⟩⟩⟩
/-- no part of a row that is no bound -/
theorem filt_isB : ∀ xs : List D, ((xs.filter fun d => !isB d).isEmpty = true) ↔ xs.all isB = true := fun xs => by
  simp [List.isEmpty_iff, List.filter_eq_nil_iff]
theorem E_law_is_table_tup (k : Nat) (rows : List D) (v : Val (.tup rows)) : lev cM cT (k + 5) "_law_is_table" [.tup rows] = .ok (.bl (isTbl (.tup rows)), [none]) := by
  have hb : borOf [D.tup rows] = [] := rfl
  walk_at "go _law_is_table"
  simp only [hb]
  clear hb
  have hne := fun r hr xs e => v.parts (r := r) (xs := xs) hr e
  have hown := fun r hr xs e => ((v.len rows rfl).2 r hr xs e).2
  obtain ⟨_, h⟩ := v.okT
  obtain ⟨hl, h⟩ := h rows rfl
  clear v
  apply wp_eq
  by_cases c1 : (1 : Int) ≤ (rows.length : Int)
  · by_cases c2 : (rows.length : Int) ≤ 6
    · have c1' : 1 ≤ rows.length := by omega
      have c2' : rows.length ≤ 6 := by omega
      walk_at "ev _law_is_table"
      refine for_wp (fun j e => ∃ o1, e = [some (.tup rows), o1, none] ∧ ∀ r ∈ rows.take j, rowOk rows.length r = true) (fun x e => x = .bl false ∧ (∃ o1, e = [some (.tup rows), o1, none]) ∧ isTbl (.tup rows) = false) ⟨_, rfl, by simp⟩ ?_ ?_ ?_
      · rintro j d e hj ⟨o1, rfl, hall⟩
        have hd : d ∈ rows := List.mem_of_getElem? hj
        obtain ⟨h0, h1⟩ := h d hd
        have nope : rowOk rows.length d = false → isTbl (.tup rows) = false := fun hr => by
          simp only [isTbl, Bool.and_eq_false_iff]
          exact .inr (List.all_eq_false.mpr ⟨d, hd, by simp [hr]⟩)
        have more : rowOk rows.length d = true → ∀ r ∈ rows.take (j + 1), rowOk rows.length r = true := fun hr r hm => by
          rw [List.take_succ, hj] at hm
          simp only [Option.toList_some, List.mem_append, List.mem_singleton] at hm
          rcases hm with hm | hm
          · exact hall r hm
          · rw [hm]; exact hr
        have hp := hne d hd
        replace hown := hown d hd
        clear h hne hall hj
        cases d with
        | tup xs =>
          obtain ⟨hx, h2⟩ := h1 xs rfl
          replace hp := hp xs rfl
          replace hown := hown xs rfl
          clear h1
          by_cases hm : (xs.length : Int) = (rows.length : Int)
          · walk_at "ev _law_is_table"
            refine lc_fm (fun e => ∃ o2, e = [some (.tup rows), some (.tup xs), o2]) (fun d => if isB d then none else some d) (Nat.le_trans hx (by decide)) ⟨_, rfl⟩ ?_ ?_
            · rintro x hxm e ⟨o2, rfl⟩
              have h3 := E_law_is_whole (k + 3) x (h2 x hxm)
              replace hp := hp x hxm
              replace hown := hown x hxm
              clear h2 hx more nope hd
              cases x with
              | lst m ds => cases m with
                | own => cases hown
                | _ => (simp only [isW, back1, owned, if_true, Bool.false_eq_true, if_false] at h3; walk_at "ev _law_is_table"; simp [isB])
              | dic m ks ds => obtain ⟨_, q, _⟩ := hp; simp [toPy] at q
              | fn x => obtain ⟨_, q, _⟩ := hp; simp [toPy] at q
              | ty n => obtain ⟨_, q, _⟩ := hp; simp [toPy] at q
              | _ => (simp only [isW, back1, owned, Bool.false_eq_true, if_false] at h3; walk_at "ev _law_is_table"; simp [isB])
            · rintro e ⟨o2, rfl⟩
              have hq : eqD (.lst .own (xs.filterMap fun d => if isB d = true then none else some d)) (.lst .own []) = some (xs.all isB) := by
                rw [eq_nil]
                · congr 1
                  rw [Bool.eq_iff_iff, List.isEmpty_iff, List.all_eq_true, List.filterMap_eq_nil_iff]
                  constructor
                  · intro hh x hx
                    have := hh x hx
                    by_cases hb : isB x = true
                    · exact hb
                    · rw [if_neg hb] at this; cases this
                  · intro hh x hx
                    rw [if_pos (hh x hx)]
                · intro x hx
                  obtain ⟨y, hy, e⟩ := List.mem_filterMap.mp hx
                  by_cases hb : isB y = true
                  · rw [if_pos hb] at e; cases e
                  · rw [if_neg hb] at e; exact Option.some.inj e ▸ hp y hy
              generalize hz : (xs.filterMap fun d => if isB d = true then none else some d) = zs
              rw [hz] at hq
              clear hz hp h2 hx
              by_cases hb : xs.all isB = true
              · rw [hb] at hq
                walk_at "ev _law_is_table"
                exact ⟨_, rfl, more (by simp [rowOk, hm, hb])⟩
              · have hb : xs.all isB = false := by simpa using hb
                rw [hb] at hq
                walk_at "ev _law_is_table"
                exact ⟨trivial, ⟨_, rfl⟩, nope (by simp [rowOk, hb])⟩
          · walk_at "ev _law_is_table"
            exact ⟨trivial, ⟨_, rfl⟩, nope (by simp [rowOk, hm])⟩
        | lst m ds => cases m <;> (walk_at "ev _law_is_table"; exact ⟨trivial, ⟨_, rfl⟩, nope rfl⟩)
        | dic m ks ds => cases m <;> (walk_at "ev _law_is_table"; exact ⟨trivial, ⟨_, rfl⟩, nope rfl⟩)
        | fn x => cases h0
        | ty n => cases h0
        | _ => (walk_at "ev _law_is_table"; exact ⟨trivial, ⟨_, rfl⟩, nope rfl⟩)
      · rintro e ⟨o1, rfl, hall⟩
        walk_at "ev _law_is_table"
        rw [List.take_length] at hall
        simp [isTbl, c1', c2']
        exact hall
      · rintro x e ⟨rfl, ⟨o1, rfl⟩, hn⟩
        walk_at "ev _law_is_table"
    · walk_at "ev _law_is_table"
      have c2' : ¬ rows.length ≤ 6 := by omega
      simp [isTbl, c2']
  · walk_at "ev _law_is_table"
    have c1' : ¬ 1 ≤ rows.length := by omega
    simp [isTbl]
    omega
theorem E_law_is_table (k : Nat) (d : D) (v : Val d) : lev cM cT (k + 5) "_law_is_table" [d] = .ok (.bl (isTbl d), [none]) := by
  have h := nc_ty v.nc
  have ho := v.own
  cases d with
  | tup rows => exact E_law_is_table_tup k rows v
  | lst m ds => cases m with
    | own => cases ho
    | _ => kernel_rfl
  | dic m ks ds => cases m with
    | own => cases ho
    | _ => kernel_rfl
  | fn x => cases h
  | ty n => cases h
  | _ => kernel_rfl
end K19

set_option Elab.async false
set_option linter.all false
set_option maxRecDepth 100000
set_option maxHeartbeats 1000000
namespace K19
open PySem L2 Ev
local macro_rules | `(tactic| walk_at "go close_table") => `(tactic| (rw [lev_eq (f := d_close_table) (by rfl) rfl, en_close_table]; have hb : defBody d_close_table.st = defBody d_close_table.st := rfl; (conv at hb => (rhs; whnf)); rw [hb]; clear hb))
local macro_rules | `(tactic| walk_at "ev close_table") => `(tactic| simp (dsimp := false) (decide := true) only [↓bin_eq, orT_s, orT_n, ↓to_bnd, wp_ok, bnd_assoc, bnd_ok, bnd_st, ↓to_lcF, ↓to_forF, ↓to_whileF, b_addT, b_addLo, b_addLf, pl_nil, pl_cons, plO_s, plO_n, c_hanc, evSs_seq, evSs_end, seq_nx, seq_rt, seq_bk, seq_ct, seq_bnd, bnd_seq, seq_for, seq_while, fin_nx, fin_rt, asgNs_nil, asgNs_cons, asgEa_nil, asgEa_nam, asgEa_sub, isOL_own, pp_0, List.cons_append, take_hn, ow_dfro, ow_dext, takeF_v, takeF_h, free_nil, free_cons, wipe_nil, wipe_cons, back_eq, patch_nil, patch_cons, li_3, li_4, li_5, li_6, li_7, frz_fro, frz_ext, frz_own, frz_non, frz_bl, frz_str, evS, ownOf, List.filterMap_cons, List.filterMap_nil, List.map_cons, List.map_nil, Option.map_some, Option.map_none, asgT, asgI, pp_1, List.nil_append, lenOk2, frzL_nil, frzL_cons, frz_tup, Int.mul_one, plainIx, intE, itE_t, itE_l, item_0, item_1, item_2, li_0, li_1, li_2, asgXs, takes_nil, takes_cons, swap, namesOn, headLine, Expr.pos, ed2, ed3, foldedForSure, constantsAlone, List.all_cons, List.all_nil, List.length_cons, List.length_nil, Nat.reduceAdd, Nat.reduceBEq, Nat.reduceBNe, Bool.or_true, Bool.or_false, Bool.true_or, Bool.false_or, beq_self_eq_true, bne_self_eq_false, List.set_cons_zero, List.set_cons_succ, evT, evTs, evE, evO, evA, evB, evP, evF, evI, evW, ofO_s, c_val, c_han, g_0, g_s, sole_v, sole_h, take_v, ow_non, ow_bl, ow_int, ow_str, ow_tup, ow_own, ow_fro, ow_ext, ow_ty, ow_fn, ow_dic, b_add, b_sub, b_mod, b_div, b_mul, n_non, n_bl, n_int, n_str, n_tup, n_lst, n_dic, m_is, m_isnot, m_lt, m_le, m_gt, m_ge, m_eq, m_ne, q_int, q_non1, q_non2, q_bl, t_bl, t_int, t_non, t_tup, t_lst, s_and, s_or, plainOp, gOf_N, gOf_bor, sub_N, name_eq, asgN_eq, call_eq, lend_nil, lend_val, lend_han, gb_nil, gb_none, gb_some, noStar, Bool.false_eq_true, if_false, if_true, Bool.not_true, Bool.not_false, outsOf, decide_true, decide_false, Bool.true_and, Bool.and_true, Bool.false_and, Bool.and_false, reduceCtorEq, Option.map_some, frz, frz_int, contents_nil, contents_cons, bl_int, bl_bl, bl_lenT, bl_lenL, bl_abs, bl_max, bl_min, bl_listT, bl_listL, bl_tupT, bl_tupL, bl_any, bl_all, is_int, is_ty, is_non_int, is_non_bool, is_non_tuple, is_non_list, is_non_str, is_non_dict, is_bl_int, is_bl_bool, is_bl_tuple, is_bl_list, is_bl_str, is_bl_dict, is_int_bool, is_int_tuple, is_int_list, is_int_str, is_int_dict, is_str_int, is_str_bool, is_str_tuple, is_str_list, is_str_str, is_str_dict, is_tup_int, is_tup_bool, is_tup_tuple, is_tup_list, is_tup_str, is_tup_dict, is_lst_int, is_lst_bool, is_lst_tuple, is_lst_list, is_lst_str, is_lst_dict, is_dic_int, is_dic_bool, is_dic_tuple, is_dic_list, is_dic_str, is_dic_dict, l_close_table_dot0, l_close_table_size, v_close_table_size, o_close_table_size, l_close_table_rows, v_close_table_rows, o_close_table_rows, l_close_table_middle, v_close_table_middle, o_close_table_middle, l_close_table_len, w_close_table_len, l_close_table_table, v_close_table_table, o_close_table_table, l_close_table_at, v_close_table_at, o_close_table_at, l_close_table_row, v_close_table_row, o_close_table_row, l_close_table_enumerate, w_close_table_enumerate, l_close_table_range, w_close_table_range, l_close_table_one, v_close_table_one, o_close_table_one, l_close_table_any, w_close_table_any, l_close_table_tuple, w_close_table_tuple, l_close_table_other, v_close_table_other, o_close_table_other, l_close_table_way, v_close_table_way, o_close_table_way, l_close_table_bound, l_close_table_add_bounds_marks, w_close_table_add_bounds_marks, l_close_table_tight, w_close_table_tight, l_close_table_column, k_add_bounds_marks, g_add_bounds_marks, r_add_bounds_marks, e_add_bounds_marks, k_any, g_any, f_any, b_any, r_any, e_any, k_enumerate, g_enumerate, f_enumerate, r_enumerate, e_enumerate, k_len, g_len, f_len, b_len, r_len, e_len, k_range, g_range, f_range, r_range, e_range, k_tight, g_tight, r_tight, e_tight, k_tuple, g_tuple, f_tuple, b_tuple, y_tuple, r_tuple, e_tuple, *])
/-! ### tables as lists of lists -/
abbrev Mat := List (List (Option Int))
def tabD (rs : Mat) : D := .tup (rs.map fun r => .tup (r.map oD))
def matD (rs : Mat) : D := .lst .own (rs.map fun r => .lst .own (r.map oD))
def rw_ (rs : Mat) (i : Nat) : List (Option Int) := (rs[i]?).getD []
def gt (rs : Mat) (i j : Nat) : Option Int := ((rw_ rs i)[j]?).getD none
def put (rs : Mat) (i j : Nat) (x : Option Int) : Mat := rs.set i ((rw_ rs i).set j x)
def Sq (n : Nat) (rs : Mat) : Prop := rs.length = n ∧ ∀ r ∈ rs, r.length = n
theorem Sq.row {n : Nat} {rs : Mat} (s : Sq n rs) {i : Nat} (h : i < n) : rs[i]? = some (rw_ rs i) ∧ (rw_ rs i).length = n := by
  have hl : i < rs.length := by rw [s.1]; exact h
  have e : rs[i]? = some rs[i] := List.getElem?_eq_getElem hl
  unfold rw_
  rw [e]
  exact ⟨rfl, s.2 _ (List.getElem_mem hl)⟩
theorem Sq.at {n : Nat} {rs : Mat} (s : Sq n rs) {i j : Nat} (h : i < n) (hj : j < n) : (rw_ rs i)[j]? = some (gt rs i j) := by
  have hl : j < (rw_ rs i).length := by rw [(s.row h).2]; exact hj
  unfold gt
  rw [List.getElem?_eq_getElem hl]
  rfl
theorem Sq.put {n : Nat} {rs : Mat} (s : Sq n rs) {i j : Nat} {x : Option Int} (h : i < n) : Sq n (put rs i j x) := by
  refine ⟨by simp [K19.put, s.1], fun r hr => ?_⟩
  unfold K19.put at hr
  rcases List.mem_or_eq_of_mem_set hr with h1 | h1
  · exact s.2 r h1
  · rw [h1, List.length_set]; exact (s.row h).2
theorem gt_put {n : Nat} {rs : Mat} (s : Sq n rs) {i j a b : Nat} {x : Option Int} (hi : i < n) (hj : j < n) : gt (put rs i j x) a b = if a = i ∧ b = j then x else gt rs a b := by
  have hil : i < rs.length := by rw [s.1]; exact hi
  have hjl : j < (rw_ rs i).length := by rw [(s.row hi).2]; exact hj
  unfold gt
  by_cases ha : a = i
  · subst ha
    have e : rw_ (put rs a j x) a = (rw_ rs a).set j x := by
      unfold rw_ put
      rw [List.getElem?_set_self hil]
      rfl
    rw [e]
    by_cases hb : b = j
    · subst hb
      rw [List.getElem?_set_self hjl]
      simp
    · rw [List.getElem?_set_ne (Ne.symm hb)]
      simp [hb]
  · have e : rw_ (put rs i j x) a = rw_ rs a := by
      unfold rw_ put
      rw [List.getElem?_set_ne (Ne.symm ha)]
    rw [e]
    simp [ha]
/-- what the evaluator asks of a table -/
theorem m_row {n : Nat} {rs : Mat} (s : Sq n rs) {i : Nat} (h : i < n) : (rs.map fun r => D.lst .own (r.map oD))[i]? = some (.lst .own ((rw_ rs i).map oD)) := by
  rw [List.getElem?_map, (s.row h).1]; rfl
theorem m_at {n : Nat} {rs : Mat} (s : Sq n rs) {i j : Nat} (h : i < n) (hj : j < n) : ((rw_ rs i).map oD)[j]? = some (oD (gt rs i j)) := by
  rw [List.getElem?_map, s.at h hj]; rfl
theorem m_item {n : Nat} {rs : Mat} (s : Sq n rs) {i : Nat} (h : i < n) : item (rs.map fun r => D.lst .own (r.map oD)) (i : Int) = some i := item_nat (by rw [List.length_map, s.1]; exact h)
theorem m_item2 {n : Nat} {rs : Mat} (s : Sq n rs) {i j : Nat} (h : i < n) (hj : j < n) : item ((rw_ rs i).map oD) (j : Int) = some j := item_nat (by rw [List.length_map, (s.row h).2]; exact hj)
theorem m_part {n : Nat} {rs : Mat} (s : Sq n rs) {i : Nat} (h : i < n) : part (matD rs) [i] = some (.lst .own ((rw_ rs i).map oD)) := by
  simp only [part, matD, m_row s h]
theorem m_put {n : Nat} {rs : Mat} (s : Sq n rs) {i j : Nat} (h : i < n) (hj : j < n) (x : Option Int) : putPart (matD rs) [i, j] (oD x) = some (matD (put rs i j x)) := by
  simp only [putPart, matD, m_row s h, m_at s h hj]
  simp only [put, List.map_set]
theorem ow_mat {rs : Mat} : owned (matD rs) = true := rfl
theorem ow_tab {rs : Mat} : owned (tabD rs) = false := rfl
theorem ow_oD {x : Option Int} : owned (oD x) = false := by cases x <;> rfl
theorem frz_oD {x : Option Int} : frz (oD x) = oD x := by cases x <;> rfl
theorem frz_tab {rs : Mat} : frz (tabD rs) = tabD rs := rfl
theorem c_han1 {e : En} {n i : Nat} {d : D} (h : getE e n = some d) : content e (.han n [i]) = part d [i] := by simp only [content, h]
/-! closing -/
def step (m i j : Nat) (rs : Mat) : Mat := put rs i j (tightO (gt rs i j) (addO (gt rs i m) (gt rs m j)))
def inn (m i : Nat) (rs : Mat) : Nat → Mat
  | 0 => rs
  | j + 1 => step m i j (inn m i rs j)
def mid (n m : Nat) (rs : Mat) : Nat → Mat
  | 0 => rs
  | i + 1 => inn m i (mid n m rs i) n
def out (n : Nat) (rs : Mat) : Nat → Mat
  | 0 => rs
  | m + 1 => mid n m (out n rs m) n
/-- what closing keeps -/
theorem inn_inv {n : Nat} {S : Mat → Prop} (hs : ∀ rs m i j, m < n → i < n → j < n → S rs → S (step m i j rs)) {m i : Nat} {rs : Mat} (hm : m < n) (hi : i < n) (h : S rs) : ∀ j, j ≤ n → S (inn m i rs j)
  | 0, _ => h
  | j + 1, hj => hs _ _ _ _ hm hi (by omega) (inn_inv hs hm hi h j (by omega))
theorem mid_inv {n : Nat} {S : Mat → Prop} (hs : ∀ rs m i j, m < n → i < n → j < n → S rs → S (step m i j rs)) {m : Nat} {rs : Mat} (hm : m < n) (h : S rs) : ∀ i, i ≤ n → S (mid n m rs i)
  | 0, _ => h
  | i + 1, hi => inn_inv hs hm (by omega) (mid_inv hs hm h i (by omega)) n (Nat.le_refl n)
theorem out_inv {n : Nat} {S : Mat → Prop} (hs : ∀ rs m i j, m < n → i < n → j < n → S rs → S (step m i j rs)) {rs : Mat} (h : S rs) : ∀ m, m ≤ n → S (out n rs m)
  | 0, _ => h
  | m + 1, hm => mid_inv hs (by omega) (out_inv hs h m (by omega)) n (Nat.le_refl n)
def Dg (n : Nat) (rs : Mat) : Prop := Sq n rs ∧ ∀ i, i < n → ∃ v, gt rs i i = some v
theorem tight_some {x : Int} {y : Option Int} : ∃ v, tightO (some x) y = some v ∧ v ≤ x := by
  cases y with
  | none => exact ⟨x, rfl, Int.le_refl x⟩
  | some z =>
    by_cases h : x < z
    · exact ⟨x, by simp [tightO, lessO, h], Int.le_refl x⟩
    · exact ⟨z, by simp [tightO, lessO, h], by omega⟩
theorem dg_step {n : Nat} (rs : Mat) (m i j : Nat) (hm : m < n) (hi : i < n) (hj : j < n) (h : Dg n rs) : Dg n (step m i j rs) := by
  refine ⟨h.1.put hi, fun a ha => ?_⟩
  unfold step
  rw [gt_put h.1 hi hj]
  by_cases hc : a = i ∧ a = j
  · rw [if_pos hc]
    obtain ⟨h1, h2⟩ := hc
    subst h1; subst h2
    obtain ⟨v, hv⟩ := h.2 a ha
    rw [hv]
    obtain ⟨w, hw, _⟩ := tight_some (x := v) (y := addO (gt rs a m) (gt rs m a))
    exact ⟨w, hw⟩
  · rw [if_neg hc]; exact h.2 a ha
def R0 (n : Nat) (rs : Mat) : Prop := Sq n rs ∧ ∀ j, j < n → ∃ v, gt rs 0 j = some v ∧ v ≤ 0
theorem r0_step {n : Nat} (rs : Mat) (m i j : Nat) (hm : m < n) (hi : i < n) (hj : j < n) (h : R0 n rs) : R0 n (step m i j rs) := by
  refine ⟨h.1.put hi, fun b hb => ?_⟩
  unfold step
  rw [gt_put h.1 hi hj]
  by_cases hc : 0 = i ∧ b = j
  · rw [if_pos hc]
    obtain ⟨h1, h2⟩ := hc
    subst h1; subst h2
    obtain ⟨v, hv, hv0⟩ := h.2 b hb
    rw [hv]
    obtain ⟨w, hw, hw2⟩ := tight_some (x := v) (y := addO (gt rs 0 m) (gt rs m b))
    exact ⟨w, hw, by omega⟩
  · rw [if_neg hc]; exact h.2 b hb
def negD (n : Nat) (rs : Mat) : Bool := (List.range n).any fun i => match gt rs i i with | some v => decide (v < 0) | none => false
def closeR (n : Nat) (rs : Mat) : D := if negD n (out n rs n) then .non else tabD (out n rs n)
/-- the diagonal at most 0 -/
def diagM (rs : Mat) : Nat → Mat
  | 0 => rs
  | i + 1 => put (diagM rs i) i i (tightO (gt (diagM rs i) i i) (some 0))
/-- row 0 and the diagonal at most 0 -/
def zeroM (rs : Mat) : Nat → Mat
  | 0 => rs
  | i + 1 => put (put (zeroM rs i) 0 i (tightO (gt (zeroM rs i) 0 i) (some 0))) i i (tightO (gt (zeroM rs i) i i) (some 0))
def dr (i k : Nat) : List (Option Int) → List (Option Int)
  | [] => []
  | x :: r => (if i = k then tightO x (some 0) else x) :: dr i (k + 1) r
def dl (k : Nat) : Mat → Mat
  | [] => []
  | r :: t => dr k 0 r :: dl (k + 1) t
theorem dl_app (k : Nat) : ∀ (a : Mat) (r : List (Option Int)), dl k (a ++ [r]) = dl k a ++ [dr (k + a.length) 0 r]
  | [], r => rfl
  | x :: a, r => by
    simp only [List.cons_append, dl, dl_app (k + 1) a r, List.length_cons]
    rw [show k + 1 + a.length = k + (a.length + 1) by omega]
theorem enD_get : ∀ (ds : List D) (k j : Nat), (enD k ds)[j]? = (ds[j]?).map fun d => .tup [.int ((k + j : Nat) : Int), d]
  | [], k, j => by simp [enD]
  | d :: ds, k, 0 => by simp [enD]
  | d :: ds, k, j + 1 => by
    simp only [enD, List.getElem?_cons_succ, enD_get ds (k + 1) j]
    rw [show k + 1 + j = k + (j + 1) by omega]
theorem enD_len : ∀ (ds : List D) (k : Nat), (enD k ds).length = ds.length
  | [], k => rfl
  | d :: ds, k => by simp only [enD, List.length_cons, enD_len ds (k + 1)]
def tD : D → D
  | .int v => .int (if v < 0 then v else 0)
  | _ => .int 0
theorem tD_ok (x : Option Int) : tD (oD x) = oD (tightO x (some 0)) := by
  cases x with
  | none => rfl
  | some v => by_cases h : v < 0 <;> simp [tD, oD, tightO, lessO, h]
def fD (i : Nat) : D → D
  | .tup [.int c, x] => if (i : Int) = c then tD x else x
  | d => d
theorem fD_ok (i : Nat) : ∀ (r : List (Option Int)) (k : Nat), (enD k (r.map oD)).map (fD i) = (dr i k r).map oD
  | [], k => rfl
  | x :: r, k => by
    simp only [List.map_cons, enD, dr, fD_ok i r (k + 1), fD]
    congr 1
    by_cases h : i = k
    · simp [h, tD_ok]
    · have : ¬ (i : Int) = (k : Int) := by omega
      rw [if_neg this, if_neg h]
theorem rg_get {n j : Nat} {d : D} (h : (rgD 0 n)[j]? = some d) : d = .int (j : Int) ∧ j < n := by
  have hl : j < n := by simpa [rgD] using (List.getElem?_eq_some_iff.mp h).1
  unfold rgD at h
  rw [List.getElem?_map, List.getElem?_range hl] at h
  simp at h
  exact ⟨h.symm, hl⟩
theorem rgOk_nat {n : Nat} (h : n ≤ 1000) : rgOk (n : Int) = true := by
  unfold rgOk
  simp only [Bool.and_eq_true, decide_eq_true_eq]
  omega
theorem enD_mem {ds : List D} {k : Nat} {d : D} (h : d ∈ enD k ds) : ∃ (c : Nat) (y : D), y ∈ ds ∧ d = .tup [.int (c : Int), y] := by
  obtain ⟨j, hj, e⟩ := List.mem_iff_getElem.mp h
  have e2 : (enD k ds)[j]? = some d := by rw [List.getElem?_eq_getElem hj, e]
  rw [enD_get] at e2
  cases hy : ds[j]? with
  | none => rw [hy] at e2; cases e2
  | some y => rw [hy] at e2; exact ⟨k + j, y, List.mem_of_getElem? hy, (Option.some.inj e2).symm⟩
theorem dl_len : ∀ (a : Mat) (k : Nat), (dl k a).length = a.length
  | [], k => rfl
  | r :: a, k => by simp only [dl, List.length_cons, dl_len a (k + 1)]
theorem dr_len (i : Nat) : ∀ (r : List (Option Int)) (k : Nat), (dr i k r).length = r.length
  | [], k => rfl
  | x :: r, k => by simp only [dr, List.length_cons, dr_len i r (k + 1)]
theorem dl_get : ∀ (a : Mat) (k i : Nat), (dl k a)[i]? = (a[i]?).map fun r => dr (k + i) 0 r
  | [], k, i => by simp [dl]
  | r :: a, k, 0 => by simp [dl]
  | r :: a, k, i + 1 => by
    simp only [dl, List.getElem?_cons_succ, dl_get a (k + 1) i]
    rw [show k + 1 + i = k + (i + 1) by omega]
theorem dr_get (i : Nat) : ∀ (r : List (Option Int)) (k j : Nat), (dr i k r)[j]? = (r[j]?).map fun x => if i = k + j then tightO x (some 0) else x
  | [], k, j => by simp [dr]
  | x :: r, k, 0 => by simp [dr]
  | x :: r, k, j + 1 => by
    simp only [dr, List.getElem?_cons_succ, dr_get i r (k + 1) j]
    rw [show k + 1 + j = k + (j + 1) by omega]
theorem sq_dl {n : Nat} {rs : Mat} (s : Sq n rs) : Sq n (dl 0 rs) := by
  refine ⟨by rw [dl_len, s.1], fun r hr => ?_⟩
  obtain ⟨i, hi, e⟩ := List.mem_iff_getElem.mp hr
  have e2 : (dl 0 rs)[i]? = some r := by rw [List.getElem?_eq_getElem hi, e]
  rw [dl_len, s.1] at hi
  rw [dl_get, (s.row hi).1] at e2
  rw [← Option.some.inj e2, dr_len, (s.row hi).2]
theorem gt_dl {n : Nat} {rs : Mat} (s : Sq n rs) {i j : Nat} (hi : i < n) (hj : j < n) : gt (dl 0 rs) i j = if i = j then tightO (gt rs i j) (some 0) else gt rs i j := by
  have e1 : rw_ (dl 0 rs) i = dr i 0 (rw_ rs i) := by
    show ((dl 0 rs)[i]?).getD [] = _
    rw [dl_get, (s.row hi).1, Nat.zero_add]
    rfl
  show ((rw_ (dl 0 rs) i)[j]?).getD none = _
  rw [e1, dr_get, s.at hi hj, Nat.zero_add]
  rfl
theorem tight0 (x : Option Int) : ∃ v, tightO x (some 0) = some v ∧ v ≤ 0 := by
  cases x with
  | none => exact ⟨0, rfl, by decide⟩
  | some z =>
    by_cases h : z < 0
    · exact ⟨z, by simp [tightO, lessO, h], by omega⟩
    · exact ⟨0, by simp [tightO, lessO, h], by decide⟩
theorem dg_dl {n : Nat} {rs : Mat} (s : Sq n rs) : Dg n (dl 0 rs) := ⟨sq_dl s, fun i hi => by
  rw [gt_dl s hi hi, if_pos rfl]
  obtain ⟨v, h, _⟩ := tight0 (gt rs i i)
  exact ⟨v, h⟩⟩
theorem map_oD_mem {r : List (Option Int)} {y : D} (h : y ∈ r.map oD) : ∃ x, y = oD x := by
  obtain ⟨x, _, e⟩ := List.mem_map.mp h
  exact ⟨x, e.symm⟩
theorem take_rw {n j : Nat} {rs : Mat} (s : Sq n rs) (h : j < n) : rs.take (j + 1) = rs.take j ++ [rw_ rs j] := by
  rw [List.take_succ, (s.row h).1]; rfl
theorem mat_app {rs : Mat} {r : List (Option Int)} : D.lst .own ((rs.map fun r => D.lst .own (r.map oD)) ++ [.lst .own (r.map oD)]) = matD (rs ++ [r]) := by
  simp [matD]
theorem oD0 : oD (some 0) = .int 0 := rfl
def ngD (N : Mat) : D → D
  | .int c => .bl (match gt N c.toNat c.toNat with | some v => decide (v < 0) | none => false)
  | d => d
theorem rgD_len (i : Int) (n : Nat) : (rgD i n).length = n := by simp [rgD]
theorem rgD_mem {n : Nat} {d : D} (h : d ∈ rgD 0 n) : ∃ c : Nat, c < n ∧ d = .int (c : Int) := by
  obtain ⟨j, hj, e⟩ := List.mem_iff_getElem.mp h
  have e2 : (rgD 0 n)[j]? = some d := by rw [List.getElem?_eq_getElem hj, e]
  obtain ⟨h1, h2⟩ := rg_get e2
  exact ⟨j, h2, h1⟩
theorem bools_bl (g : D → Bool) : ∀ (ds : List D) (f : D → D), (∀ d ∈ ds, f d = .bl (g d)) → bools (ds.map f) = some (ds.map g)
  | [], f, _ => rfl
  | d :: r, f, h => by simp only [List.map_cons, h d List.mem_cons_self, bools, bools_bl g r f fun d' hd => h d' (List.mem_cons_of_mem _ hd)]
theorem any_ngD {m : Mk} (N : Mat) (n : Nat) : callB .any [.lst m ((rgD 0 n).map (ngD N))] = some (.bl (negD n N)) := by
  have h := bools_bl (fun d => match d with | .int c => (match gt N c.toNat c.toNat with | some v => decide (v < 0) | none => false) | _ => false) (rgD 0 n) (ngD N) fun d hd => by
    obtain ⟨c, _, rfl⟩ := rgD_mem hd
    rfl
  rw [bl_any h]
  unfold negD rgD
  simp [List.any_map, Function.comp_def]
theorem frzL_oD : ∀ r : List (Option Int), frzL (r.map oD) = r.map oD
  | [] => rfl
  | x :: r => by simp only [List.map_cons, frzL, frz_oD, frzL_oD r]
theorem plain_oD : ∀ r : List (Option Int), plainL (r.map oD) = true
  | [] => rfl
  | x :: r => by simp only [List.map_cons, plainL, ow_oD, plain_oD r]; rfl
def frmD (rs : Mat) : D := .lst .fro (rs.map fun r => .lst .fro (r.map oD))
theorem frz_mat {rs : Mat} : frz (matD rs) = frmD rs := by
  unfold matD frmD
  rw [frz_own]
  congr 1
  induction rs with
  | nil => rfl
  | cons r rs ih => simp only [List.map_cons, frzL_cons, frz_own, frzL_oD, ih]
theorem frz_frm {rs : Mat} : frz (frmD rs) = .lst .fro (rs.map fun r => .lst .fro (r.map oD)) := rfl
def rowT : D → D
  | .lst _ xs => .tup xs
  | d => d
theorem rowT_all (rs : Mat) : (rs.map fun r => D.lst .fro (r.map oD)).map rowT = rs.map fun r => .tup (r.map oD) := by simp [Function.comp_def, rowT]
theorem plain_tup : ∀ N : Mat, plainL (N.map fun r => D.tup (r.map oD)) = true
  | [] => rfl
  | x :: r => by simp only [List.map_cons, plainL, ow_tup, plain_tup r]; rfl
theorem close_tab (k : Nat) (n : Nat) (rs : Mat) (s : Sq n rs) (hn : n ≤ 1000) : lev cM cT (k + 4) "close_table" [tabD rs] = .ok (closeR n (dl 0 rs), [none]) := by
  have hb : borOf [tabD rs] = [] := rfl
  have hlen : ((rs.map fun r => D.tup (r.map oD)).length : Int) = n := by rw [List.length_map, s.1]
  have rg := rgOk_nat hn
  walk_at "go close_table"
  simp only [hb]
  clear hb
  apply wp_eq
  unfold tabD
  walk_at "ev close_table"
  refine for_wp (fun j e => ∃ o3 o4, e = [some (tabD rs), some (.int n), some (matD (dl 0 (rs.take j))), o3, o4, none, none, none, none, none, none] ∧ plO o3 = true ∧ plO o4 = true) (fun _ _ => False) ⟨_, _, rfl, rfl, rfl⟩ ?_ ?_ (fun _ _ z => z.elim)
  · rintro j d e hj ⟨o3, o4, rfl, -⟩
    rw [enD_get, List.getElem?_map] at hj
    have hlt : j < n := by
      cases q : rs[j]? with
      | none => rw [q] at hj; cases hj
      | some r => have := (List.getElem?_eq_some_iff.mp q).1; rw [s.1] at this; exact this
    rw [(s.row hlt).1] at hj
    simp only [Option.map_some, Option.some.injEq, Nat.zero_add] at hj
    subst hj
    rw [take_rw s hlt, dl_app, List.length_take, s.1, Nat.zero_add, Nat.min_eq_left (Nat.le_of_lt hlt)]
    generalize hM : dl 0 (rs.take j) = M
    have hlM : (M.map fun r => D.lst .own (r.map oD)).length < sizeLine := by
      rw [← hM, List.length_map, dl_len, List.length_take, s.1]
      have : (1000 : Nat) < sizeLine := by decide
      omega
    have ht : ∀ x, lev cM cT (k + 3) "tight" [oD x, .int 0] = .ok (oD (tightO x (some 0)), [none, none]) := fun x => E_tight (k + 1) x (some 0)
    clear hM
    unfold matD
    walk_at "ev close_table"
    refine lc_map (fun e => ∃ o5 o6, e = [some (tabD rs), some (.int n), some (.lst .own (M.map fun r => D.lst .own (r.map oD))), some (.int j), some (.tup ((rw_ rs j).map oD)), o5, o6, none, none, none, none]) (fD j) (by rw [enD_len, List.length_map, (s.row hlt).2]; exact Nat.le_trans hn (by decide)) ⟨_, _, rfl⟩ ?_ ?_
    · rintro d hd e ⟨o5, o6, rfl⟩
      obtain ⟨c, y, hy, rfl⟩ := enD_mem hd
      obtain ⟨x, rfl⟩ := map_oD_mem hy
      have ho := ow_oD (x := x)
      have hf := frz_oD (x := x)
      have hf2 := frz_oD (x := tightO x (some 0))
      have ht := ht x
      clear hd hy hlM
      by_cases hc : (j : Int) = (c : Int)
      · walk_at "ev close_table"
        simp [fD, hc, tD_ok]
      · walk_at "ev close_table"
        simp [fD, hc]
    · rintro e ⟨o5, o6, rfl⟩
      rw [fD_ok]
      walk_at "ev close_table"
      simp only [List.map_append, List.map_cons, List.map_nil]
      exact ⟨_, _, rfl, rfl, rfl⟩
  · rintro e ⟨o3, o4, rfl, p3, p4⟩
    have eM : dl 0 (rs.take (enD 0 (rs.map fun r => D.tup (r.map oD))).length) = dl 0 rs := by rw [enD_len, List.length_map, List.take_length]
    rw [eM]
    have sM : Sq n (dl 0 rs) := sq_dl s
    have dM : Dg n (dl 0 rs) := dg_dl s
    generalize dl 0 rs = M at sM dM
    clear eM hlen
    walk_at "ev close_table"
    refine for_wp (fun m e => ∃ o7 o8 o9 o10, e = [some (tabD rs), some (.int n), some (matD (out n M m)), o3, o4, none, none, o7, o8, o9, o10]) (fun _ _ => False) ⟨_, _, _, _, rfl⟩ ?_ ?_ (fun _ _ z => z.elim)
    · rintro m d e hj ⟨o7, o8, o9, o10, rfl⟩
      obtain ⟨rfl, hm⟩ := rg_get hj
      have dN := out_inv (S := Dg n) dg_step dM m (Nat.le_of_lt hm)
      rw [show out n M (m + 1) = mid n m (out n M m) n from rfl]
      generalize out n M m = N at dN
      clear hj
      walk_at "ev close_table"
      refine for_wp (fun i e => ∃ o8 o9 o10, e = [some (tabD rs), some (.int n), some (matD (mid n m N i)), o3, o4, none, none, some (.int m), o8, o9, o10]) (fun _ _ => False) ⟨_, _, _, rfl⟩ ?_ ?_ (fun _ _ z => z.elim)
      · rintro i d e hj ⟨o8, o9, o10, rfl⟩
        obtain ⟨rfl, hi⟩ := rg_get hj
        have dN := mid_inv (S := Dg n) dg_step (by simpa using hm) dN i (Nat.le_of_lt (by simpa using hi))
        rw [show mid n m N (i + 1) = inn m i (mid n m N i) n from rfl]
        generalize mid n m N i = N at dN
        clear hj
        walk_at "ev close_table"
        refine for_wp (fun j e => ∃ o9 o10, e = [some (tabD rs), some (.int n), some (matD (inn m i N j)), o3, o4, none, none, some (.int m), some (.int i), o9, o10]) (fun _ _ => False) ⟨_, _, rfl⟩ ?_ ?_ (fun _ _ z => z.elim)
        · rintro j d e hj ⟨o9, o10, rfl⟩
          obtain ⟨rfl, hj'⟩ := rg_get hj
          have dN := inn_inv (S := Dg n) dg_step (by simpa using hm) (by simpa using hi) dN j (Nat.le_of_lt (by simpa using hj'))
          rw [show inn m i N (j + 1) = step m i j (inn m i N j) from rfl]
          generalize inn m i N j = N at dN
          clear hj
          have hm : m < n := by simpa using hm
          have hi : i < n := by simpa using hi
          have hj : j < n := by simpa using hj'
          have sN := dN.1
          clear hj' dN dM sM s rg hn
          have a1 := m_item sN hi
          have a2 := m_row sN hi
          have a3 := m_part sN hi
          have a4 := m_item2 sN hi hm
          have a5 := m_at sN hi hm
          have b1 := m_item sN hm
          have b2 := m_row sN hm
          have b3 := m_part sN hm
          have b4 := m_item2 sN hm hj
          have b5 := m_at sN hm hj
          have c4 := m_item2 sN hi hj
          have c5 := m_at sN hi hj
          have h1 := E_add_bounds_marks (k + 2) (gt N i m) (gt N m j)
          have h2 := E_tight (k + 1) (gt N i j) (addO (gt N i m) (gt N m j))
          have p1 := m_put sN hi hj (tightO (gt N i j) (addO (gt N i m) (gt N m j)))
          have w1 := ow_oD (x := gt N i m)
          have w2 := ow_oD (x := gt N m j)
          have w3 := ow_oD (x := gt N i j)
          have w4 := ow_oD (x := addO (gt N i m) (gt N m j))
          have f1 := frz_oD (x := gt N i m)
          have f2 := frz_oD (x := gt N m j)
          have f3 := frz_oD (x := gt N i j)
          have f4 := frz_oD (x := addO (gt N i m) (gt N m j))
          rw [show step m i j N = put N i j (tightO (gt N i j) (addO (gt N i m) (gt N m j))) from rfl]
          generalize put N i j (tightO (gt N i j) (addO (gt N i m) (gt N m j))) = N' at *
          clear hm hi hj sN
          simp only [matD] at a3 b3 p1 ⊢
          walk_at "ev close_table"
          exact ⟨_, _, rfl⟩
        · rintro e ⟨o9, o10, rfl⟩
          walk_at "ev close_table"
          rw [rgD_len, Int.toNat_natCast]
          exact ⟨_, _, _, rfl⟩
      · rintro e ⟨o8, o9, o10, rfl⟩
        walk_at "ev close_table"
        rw [rgD_len, Int.toNat_natCast]
        exact ⟨_, _, _, _, rfl⟩
    · rintro e ⟨o7, o8, o9, o10, rfl⟩
      rw [rgD_len, Int.toNat_natCast]
      have dN := out_inv (S := Dg n) dg_step dM n (Nat.le_refl n)
      unfold closeR
      generalize out n M n = N at dN
      have sN := dN.1
      clear sM dM s
      walk_at "ev close_table"
      refine lc_map (fun e => ∃ o, e = [some (tabD rs), some (.int n), some (matD N), o, o4, none, none, o7, o8, o9, o10]) (ngD N) (by rw [rgD_len, Int.toNat_natCast]; exact Nat.le_trans hn (by decide)) ⟨_, rfl⟩ ?_ ?_
      · rintro d hd e ⟨o, rfl⟩
        obtain ⟨c, hc, rfl⟩ := rgD_mem hd
        have hc : c < n := by simpa using hc
        obtain ⟨v, hv⟩ := dN.2 c hc
        have a1 := m_item sN hc
        have a2 := m_row sN hc
        have a3 := m_part sN hc
        have a4 := m_item2 sN hc hc
        have a5 := m_at sN hc hc
        rw [hv] at a5
        simp only [oD] at a5
        clear hd dN sN hc rg hn
        simp only [matD] at a3 ⊢
        walk_at "ev close_table"
        simp [ngD, hv]
      · rintro e ⟨o, rfl⟩
        have hb := any_ngD (m := .own) N n
        have fm := frz_mat (rs := N)
        have ffm := frz_frm (rs := N)
        have om := ow_mat (rs := N)
        simp only [Int.toNat_natCast]
        by_cases hneg : negD n N = true
        · rw [hneg] at hb
          walk_at "ev close_table"
        · have hneg : negD n N = false := by simpa using hneg
          rw [hneg] at hb
          clear dN p3 rg
          walk_at "ev close_table"
          refine lc_map (fun e => ∃ o4, e = [some (tabD rs), some (.int n), some (frmD N), o3, o4, none, none, o7, o8, o9, o10]) rowT (by rw [List.length_map, sN.1]; exact Nat.le_trans hn (by decide)) ⟨_, rfl⟩ ?_ ?_
          · rintro d hd e ⟨o4, rfl⟩
            obtain ⟨r, _, rfl⟩ := List.mem_map.mp hd
            have h1 := plain_oD r
            clear hd
            walk_at "ev close_table"
            simp [rowT]
          · rintro e ⟨o4, rfl⟩
            rw [rowT_all]
            have h1 : plainL (N.map fun r => D.tup (r.map oD)) = true := plain_tup N
            walk_at "ev close_table"
            rfl
end K19

set_option Elab.async false
set_option linter.all false
set_option maxRecDepth 100000
set_option maxHeartbeats 1000000
namespace K19
open PySem L2 Ev
local macro_rules | `(tactic| walk_at "go _law_closed") => `(tactic| (rw [lev_eq (f := d__law_closed) (by rfl) rfl, en__law_closed]; have hb : defBody d__law_closed.st = defBody d__law_closed.st := rfl; (conv at hb => (rhs; whnf)); rw [hb]; clear hb))
local macro_rules | `(tactic| walk_at "ev _law_closed") => `(tactic| simp (dsimp := false) (decide := true) only [↓bin_eq, orT_s, orT_n, ↓to_bnd, wp_ok, bnd_assoc, bnd_ok, bnd_st, ↓to_lcF, ↓to_forF, ↓to_whileF, b_addT, b_addLo, b_addLf, pl_nil, pl_cons, plO_s, plO_n, c_hanc, evSs_seq, evSs_end, seq_nx, seq_rt, seq_bk, seq_ct, seq_bnd, bnd_seq, seq_for, seq_while, fin_nx, fin_rt, asgNs_nil, asgNs_cons, asgEa_nil, asgEa_nam, asgEa_sub, isOL_own, pp_0, List.cons_append, take_hn, ow_dfro, ow_dext, takeF_v, takeF_h, free_nil, free_cons, wipe_nil, wipe_cons, back_eq, patch_nil, patch_cons, li_3, li_4, li_5, li_6, li_7, frz_fro, frz_ext, frz_own, frz_non, frz_bl, frz_str, evS, ownOf, List.filterMap_cons, List.filterMap_nil, List.map_cons, List.map_nil, Option.map_some, Option.map_none, asgT, asgI, pp_1, List.nil_append, lenOk2, frzL_nil, frzL_cons, frz_tup, Int.mul_one, plainIx, intE, itE_t, itE_l, item_0, item_1, item_2, li_0, li_1, li_2, asgXs, takes_nil, takes_cons, swap, namesOn, headLine, Expr.pos, ed2, ed3, foldedForSure, constantsAlone, List.all_cons, List.all_nil, List.length_cons, List.length_nil, Nat.reduceAdd, Nat.reduceBEq, Nat.reduceBNe, Bool.or_true, Bool.or_false, Bool.true_or, Bool.false_or, beq_self_eq_true, bne_self_eq_false, List.set_cons_zero, List.set_cons_succ, evT, evTs, evE, evO, evA, evB, evP, evF, evI, evW, ofO_s, c_val, c_han, g_0, g_s, sole_v, sole_h, take_v, ow_non, ow_bl, ow_int, ow_str, ow_tup, ow_own, ow_fro, ow_ext, ow_ty, ow_fn, ow_dic, b_add, b_sub, b_mod, b_div, b_mul, n_non, n_bl, n_int, n_str, n_tup, n_lst, n_dic, m_is, m_isnot, m_lt, m_le, m_gt, m_ge, m_eq, m_ne, q_int, q_non1, q_non2, q_bl, t_bl, t_int, t_non, t_tup, t_lst, s_and, s_or, plainOp, gOf_N, gOf_bor, sub_N, name_eq, asgN_eq, call_eq, lend_nil, lend_val, lend_han, gb_nil, gb_none, gb_some, noStar, Bool.false_eq_true, if_false, if_true, Bool.not_true, Bool.not_false, outsOf, decide_true, decide_false, Bool.true_and, Bool.and_true, Bool.false_and, Bool.and_false, reduceCtorEq, Option.map_some, frz, frz_int, contents_nil, contents_cons, bl_int, bl_bl, bl_lenT, bl_lenL, bl_abs, bl_max, bl_min, bl_listT, bl_listL, bl_tupT, bl_tupL, bl_any, bl_all, is_int, is_ty, is_non_int, is_non_bool, is_non_tuple, is_non_list, is_non_str, is_non_dict, is_bl_int, is_bl_bool, is_bl_tuple, is_bl_list, is_bl_str, is_bl_dict, is_int_bool, is_int_tuple, is_int_list, is_int_str, is_int_dict, is_str_int, is_str_bool, is_str_tuple, is_str_list, is_str_str, is_str_dict, is_tup_int, is_tup_bool, is_tup_tuple, is_tup_list, is_tup_str, is_tup_dict, is_lst_int, is_lst_bool, is_lst_tuple, is_lst_list, is_lst_str, is_lst_dict, is_dic_int, is_dic_bool, is_dic_tuple, is_dic_list, is_dic_str, is_dic_dict, l__law_closed_dot0, l__law_closed_at, v__law_closed_at, o__law_closed_at, l__law_closed_middle, v__law_closed_middle, o__law_closed_middle, l__law_closed_size, v__law_closed_size, o__law_closed_size, l__law_closed_rows, v__law_closed_rows, o__law_closed_rows, l__law_closed_range, w__law_closed_range, l__law_closed_one, v__law_closed_one, o__law_closed_one, l__law_closed_tuple, w__law_closed_tuple, l__law_closed_len, w__law_closed_len, l__law_closed_table, v__law_closed_table, o__law_closed_table, l__law_closed_other, v__law_closed_other, o__law_closed_other, l__law_closed_list, l__law_closed_row, l__law_closed__law_tight, w__law_closed__law_tight, l__law_closed__law_sum, w__law_closed__law_sum, d__law_closed_size, d__law_closed_rows, x__law_closed_size_rows, k__law_sum, g__law_sum, r__law_sum, e__law_sum, k__law_tight, g__law_tight, r__law_tight, e__law_tight, k_len, g_len, f_len, b_len, r_len, e_len, k_list, g_list, f_list, b_list, y_list, r_list, e_list, k_range, g_range, f_range, r_range, e_range, k_tuple, g_tuple, f_tuple, b_tuple, y_tuple, r_tuple, e_tuple, *])
def lstT : D → D
  | .tup xs => .lst .own xs
  | d => d
theorem lstT_all (rs : Mat) : (rs.map fun r => D.tup (r.map oD)).map lstT = rs.map fun r => .lst .own (r.map oD) := by simp [Function.comp_def, lstT]
theorem sq_zero {n : Nat} {rs : Mat} (s : Sq n rs) : ∀ i, i ≤ n → Sq n (zeroM rs i)
  | 0, _ => s
  | i + 1, h => (Sq.put (sq_zero s i (by omega)) (by omega)).put (by omega)
def ngF (N : Mat) : D → Option D
  | .int c => match gt N c.toNat c.toNat with | some v => if v < 0 then some (.int c) else none | none => none
  | _ => none
theorem eq_ngF {m m' : Mk} (N : Mat) (n : Nat) : eqD (.lst m ((rgD 0 n).filterMap (ngF N))) (.lst m' []) = some (!negD n N) := by
  rw [eq_nil]
  · congr 1
    rw [Bool.eq_iff_iff, List.isEmpty_iff, List.filterMap_eq_nil_iff, Bool.not_eq_true', ← Bool.not_eq_true]
    unfold negD
    rw [List.any_eq_true]
    constructor
    · rintro h ⟨c, hc, hv⟩
      have := h (.int (c : Int)) (by unfold rgD; exact List.mem_map.mpr ⟨c, hc, by simp⟩)
      simp only [ngF, Int.toNat_natCast] at this
      cases hg : gt N c c with
      | none => rw [hg] at hv; cases hv
      | some v =>
        rw [hg] at this hv
        simp only [decide_eq_true_eq] at hv
        simp [hv] at this
    · intro h d hd
      obtain ⟨c, hc, rfl⟩ := rgD_mem hd
      simp only [ngF, Int.toNat_natCast]
      cases hg : gt N c c with
      | none => rfl
      | some v =>
        by_cases hv : v < 0
        · exact absurd ⟨c, List.mem_range.mpr hc, by rw [hg]; simpa using hv⟩ h
        · simp [hv]
  · intro x hx
    obtain ⟨y, hy, e⟩ := List.mem_filterMap.mp hx
    obtain ⟨c, hc, rfl⟩ := rgD_mem hy
    simp only [ngF] at e
    split at e
    · split at e
      · cases e; exact nc_mono nc_int (by omega)
      · cases e
    · cases e
theorem law_closed_tab (k : Nat) (n : Nat) (rs : Mat) (s : Sq n rs) (hn : n ≤ 1000) (dz : Dg n (zeroM rs n)) : lev cM cT (k + 4) "_law_closed" [tabD rs] = .ok (closeR n (zeroM rs n), [none]) := by
  have hb : borOf [tabD rs] = [] := rfl
  have hlen : ((rs.map fun r => D.tup (r.map oD)).length : Int) = n := by rw [List.length_map, s.1]
  have rg := rgOk_nat hn
  walk_at "go _law_closed"
  simp only [hb]
  clear hb
  apply wp_eq
  unfold tabD
  walk_at "ev _law_closed"
  refine lc_map (fun e => ∃ o, e = [some (tabD rs), none, none, o, none, none, none, none]) lstT (by rw [List.length_map, s.1]; exact Nat.le_trans hn (by decide)) ⟨_, rfl⟩ ?_ ?_
  · rintro d hd e ⟨o4, rfl⟩
    obtain ⟨r, _, rfl⟩ := List.mem_map.mp hd
    have h1 := plain_oD r
    clear hd
    walk_at "ev _law_closed"
    simp [lstT]
  · rintro e ⟨o, rfl⟩
    rw [lstT_all]
    walk_at "ev _law_closed"
    refine for_wp (fun a e => ∃ o4, e = [some (tabD rs), some (.int n), some (matD (zeroM rs a)), none, o4, none, none, none] ∧ plO o4 = true) (fun _ _ => False) ⟨_, rfl, rfl⟩ ?_ ?_ (fun _ _ z => z.elim)
    · rintro a d e hj ⟨o4, rfl, -⟩
      obtain ⟨rfl, ha⟩ := rg_get hj
      have ha : a < n := by simpa using ha
      have sN := sq_zero s a (Nat.le_of_lt ha)
      rw [show zeroM rs (a + 1) = put (put (zeroM rs a) 0 a (tightO (gt (zeroM rs a) 0 a) (some 0))) a a (tightO (gt (zeroM rs a) a a) (some 0)) from rfl]
      generalize zeroM rs a = N at sN
      have h0 : 0 < n := by omega
      have a1 : item (N.map fun r => D.lst .own (r.map oD)) 0 = some 0 := by simpa using m_item sN h0
      have a2 := m_row sN h0
      have a3 := m_part sN h0
      have a4 := m_item2 sN h0 ha
      have a5 := m_at sN h0 ha
      have b1 := m_item sN ha
      have b2 := m_row sN ha
      have b3 := m_part sN ha
      have b4 := m_item2 sN ha ha
      have b5 := m_at sN ha ha
      have p1 := m_put sN h0 ha (tightO (gt N 0 a) (some 0))
      have sN2 := sN.put (j := a) (x := tightO (gt N 0 a) (some 0)) h0
      have c1 := m_item sN2 ha
      have c2 := m_row sN2 ha
      have c3 := m_part sN2 ha
      have c4 := m_item2 sN2 ha ha
      have c5 := m_at sN2 ha ha
      have p2 := m_put sN2 ha ha (tightO (gt N a a) (some 0))
      have h1 : ∀ x, lev cM cT (k + 3) "_law_tight" [oD x, .int 0] = .ok (oD (tightO x (some 0)), [none, none]) := fun x => E_law_tight (k + 2) x (some 0)
      have w := fun x => ow_oD (x := x)
      have f := fun x => frz_oD (x := x)
      generalize put N 0 a (tightO (gt N 0 a) (some 0)) = N1 at *
      generalize put N1 a a (tightO (gt N a a) (some 0)) = N2 at *
      clear hj dz hlen sN sN2 s rg hn
      simp only [matD] at a3 b3 c3 p1 p2 ⊢
      walk_at "ev _law_closed"
      exact ⟨_, rfl, rfl⟩
    · rintro e ⟨o4, rfl, p4⟩
      rw [rgD_len, Int.toNat_natCast]
      generalize zeroM rs n = M at dz
      have dM := dz
      clear hlen
      walk_at "ev _law_closed"
      refine for_wp (fun m e => ∃ o5 o6 o7, e = [some (tabD rs), some (.int n), some (matD (out n M m)), none, o4, o5, o6, o7]) (fun _ _ => False) ⟨_, _, _, rfl⟩ ?_ ?_ (fun _ _ z => z.elim)
      · rintro m d e hj ⟨o5, o6, o7, rfl⟩
        obtain ⟨rfl, hm⟩ := rg_get hj
        have dN := out_inv (S := Dg n) dg_step dM m (Nat.le_of_lt (by simpa using hm))
        rw [show out n M (m + 1) = mid n m (out n M m) n from rfl]
        generalize out n M m = N at dN
        clear hj dM dz
        walk_at "ev _law_closed"
        refine for_wp (fun i e => ∃ o6 o7, e = [some (tabD rs), some (.int n), some (matD (mid n m N i)), none, o4, some (.int m), o6, o7]) (fun _ _ => False) ⟨_, _, rfl⟩ ?_ ?_ (fun _ _ z => z.elim)
        · rintro i d e hj ⟨o6, o7, rfl⟩
          obtain ⟨rfl, hi⟩ := rg_get hj
          have dN := mid_inv (S := Dg n) dg_step (by simpa using hm) dN i (Nat.le_of_lt (by simpa using hi))
          rw [show mid n m N (i + 1) = inn m i (mid n m N i) n from rfl]
          generalize mid n m N i = N at dN
          clear hj
          walk_at "ev _law_closed"
          refine for_wp (fun j e => ∃ o7, e = [some (tabD rs), some (.int n), some (matD (inn m i N j)), none, o4, some (.int m), some (.int i), o7]) (fun _ _ => False) ⟨_, rfl⟩ ?_ ?_ (fun _ _ z => z.elim)
          · rintro j d e hj ⟨o7, rfl⟩
            obtain ⟨rfl, hj'⟩ := rg_get hj
            have dN := inn_inv (S := Dg n) dg_step (by simpa using hm) (by simpa using hi) dN j (Nat.le_of_lt (by simpa using hj'))
            rw [show inn m i N (j + 1) = step m i j (inn m i N j) from rfl]
            generalize inn m i N j = N at dN
            clear hj
            have hm : m < n := by simpa using hm
            have hi : i < n := by simpa using hi
            have hj : j < n := by simpa using hj'
            have sN := dN.1
            clear hj' dN s rg hn
            have a1 := m_item sN hi
            have a2 := m_row sN hi
            have a3 := m_part sN hi
            have a4 := m_item2 sN hi hm
            have a5 := m_at sN hi hm
            have b1 := m_item sN hm
            have b2 := m_row sN hm
            have b3 := m_part sN hm
            have b4 := m_item2 sN hm hj
            have b5 := m_at sN hm hj
            have c4 := m_item2 sN hi hj
            have c5 := m_at sN hi hj
            have h1 : lev cM cT (k + 3) "_law_sum" [oD (gt N i m), oD (gt N m j)] = .ok (oD (addO (gt N i m) (gt N m j)), [none, none]) := E_law_sum (k + 2) (gt N i m) (gt N m j)
            have h2 : lev cM cT (k + 3) "_law_tight" [oD (gt N i j), oD (addO (gt N i m) (gt N m j))] = .ok (oD (tightO (gt N i j) (addO (gt N i m) (gt N m j))), [none, none]) := E_law_tight (k + 2) (gt N i j) (addO (gt N i m) (gt N m j))
            have p1 := m_put sN hi hj (tightO (gt N i j) (addO (gt N i m) (gt N m j)))
            have w := fun x => ow_oD (x := x)
            have f := fun x => frz_oD (x := x)
            rw [show step m i j N = put N i j (tightO (gt N i j) (addO (gt N i m) (gt N m j))) from rfl]
            generalize put N i j (tightO (gt N i j) (addO (gt N i m) (gt N m j))) = N' at *
            clear hm hi hj sN
            simp only [matD] at a3 b3 p1 ⊢
            walk_at "ev _law_closed"
            exact ⟨_, rfl⟩
          · rintro e ⟨o7, rfl⟩
            walk_at "ev _law_closed"
            rw [rgD_len, Int.toNat_natCast]
            exact ⟨_, _, rfl⟩
        · rintro e ⟨o6, o7, rfl⟩
          walk_at "ev _law_closed"
          rw [rgD_len, Int.toNat_natCast]
          exact ⟨_, _, _, rfl⟩
      · rintro e ⟨o5, o6, o7, rfl⟩
        rw [rgD_len, Int.toNat_natCast]
        have dN := out_inv (S := Dg n) dg_step dM n (Nat.le_refl n)
        unfold closeR
        generalize out n M n = N at dN
        have sN := dN.1
        clear dM dz s
        walk_at "ev _law_closed"
        refine lc_fm (fun e => ∃ o, e = [some (tabD rs), some (.int n), some (matD N), none, o, o5, o6, o7]) (ngF N) (by rw [rgD_len, Int.toNat_natCast]; exact Nat.le_trans hn (by decide)) ⟨_, rfl⟩ ?_ ?_
        · rintro d hd e ⟨o, rfl⟩
          obtain ⟨c, hc, rfl⟩ := rgD_mem hd
          have hc : c < n := by simpa using hc
          obtain ⟨v, hv⟩ := dN.2 c hc
          have a1 := m_item sN hc
          have a2 := m_row sN hc
          have a3 := m_part sN hc
          have a4 := m_item2 sN hc hc
          have a5 := m_at sN hc hc
          rw [hv] at a5
          simp only [oD] at a5
          clear hd dN sN hc rg hn
          simp only [matD] at a3 ⊢
          by_cases hneg : v < 0
          · walk_at "ev _law_closed"
            simp [ngF, hv, hneg]
          · walk_at "ev _law_closed"
            simp [ngF, hv, hneg]
        · rintro e ⟨o, rfl⟩
          have hb := eq_ngF (m := .own) (m' := .own) N n
          have fm := frz_mat (rs := N)
          have ffm := frz_frm (rs := N)
          have om := ow_mat (rs := N)
          simp only [Int.toNat_natCast]
          generalize (rgD 0 n).filterMap (ngF N) = zs at hb
          by_cases hneg : negD n N = true
          · rw [hneg] at hb
            walk_at "ev _law_closed"
          · have hneg : negD n N = false := by simpa using hneg
            rw [hneg] at hb
            clear dN rg
            walk_at "ev _law_closed"
            refine lc_map (fun e => ∃ o3, e = [some (tabD rs), some (.int n), some (frmD N), o3, o4, o5, o6, o7]) rowT (by rw [List.length_map, sN.1]; exact Nat.le_trans hn (by decide)) ⟨_, rfl⟩ ?_ ?_
            · rintro d hd e ⟨o3, rfl⟩
              obtain ⟨r, _, rfl⟩ := List.mem_map.mp hd
              have h1 := plain_oD r
              clear hd
              walk_at "ev _law_closed"
              simp [rowT]
            · rintro e ⟨o3, rfl⟩
              rw [rowT_all]
              have h1 : plainL (N.map fun r => D.tup (r.map oD)) = true := plain_tup N
              walk_at "ev _law_closed"
              rfl
end K19

set_option Elab.async false
set_option linter.all false
set_option maxRecDepth 100000
set_option maxHeartbeats 1000000
namespace K19
open PySem L2 Ev
local macro_rules | `(tactic| walk_at "go is_zone_of") => `(tactic| (rw [lev_eq (f := d_is_zone_of) (by rfl) rfl, en_is_zone_of]; have hb : defBody d_is_zone_of.st = defBody d_is_zone_of.st := rfl; (conv at hb => (rhs; whnf)); rw [hb]; clear hb))
local macro_rules | `(tactic| walk_at "ev is_zone_of") => `(tactic| simp (dsimp := false) (decide := true) only [↓bin_eq, orT_s, orT_n, ↓to_bnd, wp_ok, bnd_assoc, bnd_ok, bnd_st, ↓to_lcF, ↓to_forF, ↓to_whileF, b_addT, b_addLo, b_addLf, pl_nil, pl_cons, plO_s, plO_n, c_hanc, evSs_seq, evSs_end, seq_nx, seq_rt, seq_bk, seq_ct, seq_bnd, bnd_seq, seq_for, seq_while, fin_nx, fin_rt, asgNs_nil, asgNs_cons, asgEa_nil, asgEa_nam, asgEa_sub, isOL_own, pp_0, List.cons_append, take_hn, ow_dfro, ow_dext, takeF_v, takeF_h, free_nil, free_cons, wipe_nil, wipe_cons, back_eq, patch_nil, patch_cons, li_3, li_4, li_5, li_6, li_7, frz_fro, frz_ext, frz_own, frz_non, frz_bl, frz_str, evS, ownOf, List.filterMap_cons, List.filterMap_nil, List.map_cons, List.map_nil, Option.map_some, Option.map_none, asgT, asgI, pp_1, List.nil_append, lenOk2, frzL_nil, frzL_cons, frz_tup, Int.mul_one, plainIx, intE, itE_t, itE_l, item_0, item_1, item_2, li_0, li_1, li_2, asgXs, takes_nil, takes_cons, swap, namesOn, headLine, Expr.pos, ed2, ed3, foldedForSure, constantsAlone, List.all_cons, List.all_nil, List.length_cons, List.length_nil, Nat.reduceAdd, Nat.reduceBEq, Nat.reduceBNe, Bool.or_true, Bool.or_false, Bool.true_or, Bool.false_or, beq_self_eq_true, bne_self_eq_false, List.set_cons_zero, List.set_cons_succ, evT, evTs, evE, evO, evA, evB, evP, evF, evI, evW, ofO_s, c_val, c_han, g_0, g_s, sole_v, sole_h, take_v, ow_non, ow_bl, ow_int, ow_str, ow_tup, ow_own, ow_fro, ow_ext, ow_ty, ow_fn, ow_dic, b_add, b_sub, b_mod, b_div, b_mul, n_non, n_bl, n_int, n_str, n_tup, n_lst, n_dic, m_is, m_isnot, m_lt, m_le, m_gt, m_ge, m_eq, m_ne, q_int, q_non1, q_non2, q_bl, t_bl, t_int, t_non, t_tup, t_lst, s_and, s_or, plainOp, gOf_N, gOf_bor, sub_N, name_eq, asgN_eq, call_eq, lend_nil, lend_val, lend_han, gb_nil, gb_none, gb_some, noStar, Bool.false_eq_true, if_false, if_true, Bool.not_true, Bool.not_false, outsOf, decide_true, decide_false, Bool.true_and, Bool.and_true, Bool.false_and, Bool.and_false, reduceCtorEq, Option.map_some, frz, frz_int, contents_nil, contents_cons, bl_int, bl_bl, bl_lenT, bl_lenL, bl_abs, bl_max, bl_min, bl_listT, bl_listL, bl_tupT, bl_tupL, bl_any, bl_all, is_int, is_ty, is_non_int, is_non_bool, is_non_tuple, is_non_list, is_non_str, is_non_dict, is_bl_int, is_bl_bool, is_bl_tuple, is_bl_list, is_bl_str, is_bl_dict, is_int_bool, is_int_tuple, is_int_list, is_int_str, is_int_dict, is_str_int, is_str_bool, is_str_tuple, is_str_list, is_str_str, is_str_dict, is_tup_int, is_tup_bool, is_tup_tuple, is_tup_list, is_tup_str, is_tup_dict, is_lst_int, is_lst_bool, is_lst_tuple, is_lst_list, is_lst_str, is_lst_dict, is_dic_int, is_dic_bool, is_dic_tuple, is_dic_list, is_dic_str, is_dic_dict, l_is_zone_of_dot0, l_is_zone_of_value, v_is_zone_of_value, o_is_zone_of_value, l_is_zone_of_any, w_is_zone_of_any, l_is_zone_of_close_table, w_is_zone_of_close_table, l_is_zone_of_is_table_in, w_is_zone_of_is_table_in, l_is_zone_of_size, v_is_zone_of_size, o_is_zone_of_size, l_is_zone_of_bound, k_any, g_any, f_any, b_any, r_any, e_any, k_close_table, g_close_table, r_close_table, e_close_table, k_is_table_in, g_is_table_in, r_is_table_in, e_is_table_in, *])
local macro_rules | `(tactic| walk_at "go is_zone_value") => `(tactic| (rw [lev_eq (f := d_is_zone_value) (by rfl) rfl, en_is_zone_value]; have hb : defBody d_is_zone_value.st = defBody d_is_zone_value.st := rfl; (conv at hb => (rhs; whnf)); rw [hb]; clear hb))
local macro_rules | `(tactic| walk_at "ev is_zone_value") => `(tactic| simp (dsimp := false) (decide := true) only [↓bin_eq, orT_s, orT_n, ↓to_bnd, wp_ok, bnd_assoc, bnd_ok, bnd_st, ↓to_lcF, ↓to_forF, ↓to_whileF, b_addT, b_addLo, b_addLf, pl_nil, pl_cons, plO_s, plO_n, c_hanc, evSs_seq, evSs_end, seq_nx, seq_rt, seq_bk, seq_ct, seq_bnd, bnd_seq, seq_for, seq_while, fin_nx, fin_rt, asgNs_nil, asgNs_cons, asgEa_nil, asgEa_nam, asgEa_sub, isOL_own, pp_0, List.cons_append, take_hn, ow_dfro, ow_dext, takeF_v, takeF_h, free_nil, free_cons, wipe_nil, wipe_cons, back_eq, patch_nil, patch_cons, li_3, li_4, li_5, li_6, li_7, frz_fro, frz_ext, frz_own, frz_non, frz_bl, frz_str, evS, ownOf, List.filterMap_cons, List.filterMap_nil, List.map_cons, List.map_nil, Option.map_some, Option.map_none, asgT, asgI, pp_1, List.nil_append, lenOk2, frzL_nil, frzL_cons, frz_tup, Int.mul_one, plainIx, intE, itE_t, itE_l, item_0, item_1, item_2, li_0, li_1, li_2, asgXs, takes_nil, takes_cons, swap, namesOn, headLine, Expr.pos, ed2, ed3, foldedForSure, constantsAlone, List.all_cons, List.all_nil, List.length_cons, List.length_nil, Nat.reduceAdd, Nat.reduceBEq, Nat.reduceBNe, Bool.or_true, Bool.or_false, Bool.true_or, Bool.false_or, beq_self_eq_true, bne_self_eq_false, List.set_cons_zero, List.set_cons_succ, evT, evTs, evE, evO, evA, evB, evP, evF, evI, evW, ofO_s, c_val, c_han, g_0, g_s, sole_v, sole_h, take_v, ow_non, ow_bl, ow_int, ow_str, ow_tup, ow_own, ow_fro, ow_ext, ow_ty, ow_fn, ow_dic, b_add, b_sub, b_mod, b_div, b_mul, n_non, n_bl, n_int, n_str, n_tup, n_lst, n_dic, m_is, m_isnot, m_lt, m_le, m_gt, m_ge, m_eq, m_ne, q_int, q_non1, q_non2, q_bl, t_bl, t_int, t_non, t_tup, t_lst, s_and, s_or, plainOp, gOf_N, gOf_bor, sub_N, name_eq, asgN_eq, call_eq, lend_nil, lend_val, lend_han, gb_nil, gb_none, gb_some, noStar, Bool.false_eq_true, if_false, if_true, Bool.not_true, Bool.not_false, outsOf, decide_true, decide_false, Bool.true_and, Bool.and_true, Bool.false_and, Bool.and_false, reduceCtorEq, Option.map_some, frz, frz_int, contents_nil, contents_cons, bl_int, bl_bl, bl_lenT, bl_lenL, bl_abs, bl_max, bl_min, bl_listT, bl_listL, bl_tupT, bl_tupL, bl_any, bl_all, is_int, is_ty, is_non_int, is_non_bool, is_non_tuple, is_non_list, is_non_str, is_non_dict, is_bl_int, is_bl_bool, is_bl_tuple, is_bl_list, is_bl_str, is_bl_dict, is_int_bool, is_int_tuple, is_int_list, is_int_str, is_int_dict, is_str_int, is_str_bool, is_str_tuple, is_str_list, is_str_str, is_str_dict, is_tup_int, is_tup_bool, is_tup_tuple, is_tup_list, is_tup_str, is_tup_dict, is_lst_int, is_lst_bool, is_lst_tuple, is_lst_list, is_lst_str, is_lst_dict, is_dic_int, is_dic_bool, is_dic_tuple, is_dic_list, is_dic_str, is_dic_dict, l_is_zone_value_isinstance, w_is_zone_value_isinstance, l_is_zone_value_value, v_is_zone_value_value, o_is_zone_value_value, l_is_zone_value_tuple, w_is_zone_value_tuple, l_is_zone_value_MOST_THINGS, w_is_zone_value_MOST_THINGS, l_is_zone_value_is_zone_of, w_is_zone_value_is_zone_of, l_is_zone_value_len, w_is_zone_value_len, k_MOST_THINGS, r_MOST_THINGS, e_MOST_THINGS, k_is_zone_of, g_is_zone_of, r_is_zone_of, e_is_zone_of, k_isinstance, g_isinstance, f_isinstance, b_isinstance, r_isinstance, e_isinstance, k_len, g_len, f_len, b_len, r_len, e_len, k_tuple, g_tuple, f_tuple, b_tuple, y_tuple, r_tuple, e_tuple, *])
local macro_rules | `(tactic| walk_at "go is_zone") => `(tactic| (rw [lev_eq (f := d_is_zone) (by rfl) rfl, en_is_zone]; have hb : defBody d_is_zone.st = defBody d_is_zone.st := rfl; (conv at hb => (rhs; whnf)); rw [hb]; clear hb))
local macro_rules | `(tactic| walk_at "ev is_zone") => `(tactic| simp (dsimp := false) (decide := true) only [↓bin_eq, orT_s, orT_n, ↓to_bnd, wp_ok, bnd_assoc, bnd_ok, bnd_st, ↓to_lcF, ↓to_forF, ↓to_whileF, b_addT, b_addLo, b_addLf, pl_nil, pl_cons, plO_s, plO_n, c_hanc, evSs_seq, evSs_end, seq_nx, seq_rt, seq_bk, seq_ct, seq_bnd, bnd_seq, seq_for, seq_while, fin_nx, fin_rt, asgNs_nil, asgNs_cons, asgEa_nil, asgEa_nam, asgEa_sub, isOL_own, pp_0, List.cons_append, take_hn, ow_dfro, ow_dext, takeF_v, takeF_h, free_nil, free_cons, wipe_nil, wipe_cons, back_eq, patch_nil, patch_cons, li_3, li_4, li_5, li_6, li_7, frz_fro, frz_ext, frz_own, frz_non, frz_bl, frz_str, evS, ownOf, List.filterMap_cons, List.filterMap_nil, List.map_cons, List.map_nil, Option.map_some, Option.map_none, asgT, asgI, pp_1, List.nil_append, lenOk2, frzL_nil, frzL_cons, frz_tup, Int.mul_one, plainIx, intE, itE_t, itE_l, item_0, item_1, item_2, li_0, li_1, li_2, asgXs, takes_nil, takes_cons, swap, namesOn, headLine, Expr.pos, ed2, ed3, foldedForSure, constantsAlone, List.all_cons, List.all_nil, List.length_cons, List.length_nil, Nat.reduceAdd, Nat.reduceBEq, Nat.reduceBNe, Bool.or_true, Bool.or_false, Bool.true_or, Bool.false_or, beq_self_eq_true, bne_self_eq_false, List.set_cons_zero, List.set_cons_succ, evT, evTs, evE, evO, evA, evB, evP, evF, evI, evW, ofO_s, c_val, c_han, g_0, g_s, sole_v, sole_h, take_v, ow_non, ow_bl, ow_int, ow_str, ow_tup, ow_own, ow_fro, ow_ext, ow_ty, ow_fn, ow_dic, b_add, b_sub, b_mod, b_div, b_mul, n_non, n_bl, n_int, n_str, n_tup, n_lst, n_dic, m_is, m_isnot, m_lt, m_le, m_gt, m_ge, m_eq, m_ne, q_int, q_non1, q_non2, q_bl, t_bl, t_int, t_non, t_tup, t_lst, s_and, s_or, plainOp, gOf_N, gOf_bor, sub_N, name_eq, asgN_eq, call_eq, lend_nil, lend_val, lend_han, gb_nil, gb_none, gb_some, noStar, Bool.false_eq_true, if_false, if_true, Bool.not_true, Bool.not_false, outsOf, decide_true, decide_false, Bool.true_and, Bool.and_true, Bool.false_and, Bool.and_false, reduceCtorEq, Option.map_some, frz, frz_int, contents_nil, contents_cons, bl_int, bl_bl, bl_lenT, bl_lenL, bl_abs, bl_max, bl_min, bl_listT, bl_listL, bl_tupT, bl_tupL, bl_any, bl_all, is_int, is_ty, is_non_int, is_non_bool, is_non_tuple, is_non_list, is_non_str, is_non_dict, is_bl_int, is_bl_bool, is_bl_tuple, is_bl_list, is_bl_str, is_bl_dict, is_int_bool, is_int_tuple, is_int_list, is_int_str, is_int_dict, is_str_int, is_str_bool, is_str_tuple, is_str_list, is_str_str, is_str_dict, is_tup_int, is_tup_bool, is_tup_tuple, is_tup_list, is_tup_str, is_tup_dict, is_lst_int, is_lst_bool, is_lst_tuple, is_lst_list, is_lst_str, is_lst_dict, is_dic_int, is_dic_bool, is_dic_tuple, is_dic_list, is_dic_str, is_dic_dict, l_is_zone_is_zone_value, w_is_zone_is_zone_value, l_is_zone_value, v_is_zone_value, o_is_zone_value, k_is_zone_value, g_is_zone_value, r_is_zone_value, e_is_zone_value, *])
local macro_rules | `(tactic| walk_at "go _law_is_zone") => `(tactic| (rw [lev_eq (f := d__law_is_zone) (by rfl) rfl, en__law_is_zone]; have hb : defBody d__law_is_zone.st = defBody d__law_is_zone.st := rfl; (conv at hb => (rhs; whnf)); rw [hb]; clear hb))
local macro_rules | `(tactic| walk_at "ev _law_is_zone") => `(tactic| simp (dsimp := false) (decide := true) only [↓bin_eq, orT_s, orT_n, ↓to_bnd, wp_ok, bnd_assoc, bnd_ok, bnd_st, ↓to_lcF, ↓to_forF, ↓to_whileF, b_addT, b_addLo, b_addLf, pl_nil, pl_cons, plO_s, plO_n, c_hanc, evSs_seq, evSs_end, seq_nx, seq_rt, seq_bk, seq_ct, seq_bnd, bnd_seq, seq_for, seq_while, fin_nx, fin_rt, asgNs_nil, asgNs_cons, asgEa_nil, asgEa_nam, asgEa_sub, isOL_own, pp_0, List.cons_append, take_hn, ow_dfro, ow_dext, takeF_v, takeF_h, free_nil, free_cons, wipe_nil, wipe_cons, back_eq, patch_nil, patch_cons, li_3, li_4, li_5, li_6, li_7, frz_fro, frz_ext, frz_own, frz_non, frz_bl, frz_str, evS, ownOf, List.filterMap_cons, List.filterMap_nil, List.map_cons, List.map_nil, Option.map_some, Option.map_none, asgT, asgI, pp_1, List.nil_append, lenOk2, frzL_nil, frzL_cons, frz_tup, Int.mul_one, plainIx, intE, itE_t, itE_l, item_0, item_1, item_2, li_0, li_1, li_2, asgXs, takes_nil, takes_cons, swap, namesOn, headLine, Expr.pos, ed2, ed3, foldedForSure, constantsAlone, List.all_cons, List.all_nil, List.length_cons, List.length_nil, Nat.reduceAdd, Nat.reduceBEq, Nat.reduceBNe, Bool.or_true, Bool.or_false, Bool.true_or, Bool.false_or, beq_self_eq_true, bne_self_eq_false, List.set_cons_zero, List.set_cons_succ, evT, evTs, evE, evO, evA, evB, evP, evF, evI, evW, ofO_s, c_val, c_han, g_0, g_s, sole_v, sole_h, take_v, ow_non, ow_bl, ow_int, ow_str, ow_tup, ow_own, ow_fro, ow_ext, ow_ty, ow_fn, ow_dic, b_add, b_sub, b_mod, b_div, b_mul, n_non, n_bl, n_int, n_str, n_tup, n_lst, n_dic, m_is, m_isnot, m_lt, m_le, m_gt, m_ge, m_eq, m_ne, q_int, q_non1, q_non2, q_bl, t_bl, t_int, t_non, t_tup, t_lst, s_and, s_or, plainOp, gOf_N, gOf_bor, sub_N, name_eq, asgN_eq, call_eq, lend_nil, lend_val, lend_han, gb_nil, gb_none, gb_some, noStar, Bool.false_eq_true, if_false, if_true, Bool.not_true, Bool.not_false, outsOf, decide_true, decide_false, Bool.true_and, Bool.and_true, Bool.false_and, Bool.and_false, reduceCtorEq, Option.map_some, frz, frz_int, contents_nil, contents_cons, bl_int, bl_bl, bl_lenT, bl_lenL, bl_abs, bl_max, bl_min, bl_listT, bl_listL, bl_tupT, bl_tupL, bl_any, bl_all, is_int, is_ty, is_non_int, is_non_bool, is_non_tuple, is_non_list, is_non_str, is_non_dict, is_bl_int, is_bl_bool, is_bl_tuple, is_bl_list, is_bl_str, is_bl_dict, is_int_bool, is_int_tuple, is_int_list, is_int_str, is_int_dict, is_str_int, is_str_bool, is_str_tuple, is_str_list, is_str_str, is_str_dict, is_tup_int, is_tup_bool, is_tup_tuple, is_tup_list, is_tup_str, is_tup_dict, is_lst_int, is_lst_bool, is_lst_tuple, is_lst_list, is_lst_str, is_lst_dict, is_dic_int, is_dic_bool, is_dic_tuple, is_dic_list, is_dic_str, is_dic_dict, l__law_is_zone__law_is_table, w__law_is_zone__law_is_table, l__law_is_zone_value, v__law_is_zone_value, o__law_is_zone_value, l__law_is_zone__law_closed, w__law_is_zone__law_closed, k__law_closed, g__law_closed, r__law_closed, e__law_closed, k__law_is_table, g__law_is_table, r__law_is_table, e__law_is_table, *])
def oP : Option Int → PyData
  | none => .none
  | some v => .int v
theorem py_oD : ∀ r : List (Option Int), toPyL (r.map oD) = some (r.map oP)
  | [] => rfl
  | x :: r => by
    simp only [List.map_cons, toPyL, py_oD r]
    cases x <;> rfl
theorem py_rows : ∀ rs : Mat, toPyL (rs.map fun r => D.tup (r.map oD)) = some (rs.map fun r => .tuple (r.map oP))
  | [] => rfl
  | r :: rs => by simp only [List.map_cons, toPyL, toPy, py_oD, py_rows rs]
theorem py_tab (rs : Mat) : toPy (tabD rs) = some (.tuple (rs.map fun r => .tuple (r.map oP))) := by
  simp only [tabD, toPy, py_rows]
theorem lay_oP : ∀ r : List (Option Int), PyData.canLayAll0 (r.map oP) = true
  | [] => rfl
  | x :: r => by cases x <;> simp [oP, PyData.canLayAll0, PyData.canLay0, lay_oP r]
theorem lay_tab : ∀ rs : Mat, PyData.canLayAll0 (rs.map fun r => .tuple (r.map oP)) = true
  | [] => rfl
  | r :: rs => by simp [PyData.canLayAll0, PyData.canLay0, lay_oP r, lay_tab rs]
theorem dep_oP : ∀ r : List (Option Int), PyData.depthAll (r.map oP) = 0
  | [] => rfl
  | x :: r => by cases x <;> simp [oP, PyData.depthAll, PyData.depth, dep_oP r]
theorem dep_tab : ∀ rs : Mat, PyData.depthAll (rs.map fun r => .tuple (r.map oP)) ≤ 1
  | [] => by simp [PyData.depthAll]
  | r :: rs => by
    simp only [List.map_cons, PyData.depthAll, PyData.depth, dep_oP r]
    have := dep_tab rs
    omega
theorem eqv_oP : ∀ a b : List (Option Int), PyData.eqvAll (a.map oP) (b.map oP) = decide (a = b)
  | [], [] => by simp [PyData.eqvAll]
  | [], y :: b => by simp [PyData.eqvAll]
  | x :: a, [] => by simp [PyData.eqvAll]
  | x :: a, y :: b => by
    simp only [List.map_cons, PyData.eqvAll, eqv_oP a b]
    cases x <;> cases y <;> simp [oP, PyData.eqv, Bool.beq_eq_decide_eq]
theorem eqv_tab : ∀ a b : Mat, PyData.eqvAll (a.map fun r => .tuple (r.map oP)) (b.map fun r => .tuple (r.map oP)) = decide (a = b)
  | [], [] => by simp [PyData.eqvAll]
  | [], y :: b => by simp [PyData.eqvAll]
  | x :: a, [] => by simp [PyData.eqvAll]
  | x :: a, y :: b => by
    simp only [List.map_cons, PyData.eqvAll, PyData.eqv, eqv_tab a b, eqv_oP]
    simp
theorem eq_tab (a b : Mat) : eqD (tabD a) (tabD b) = some (decide (a = b)) := by
  have h1 := dep_tab a
  have h2 := dep_tab b
  rw [eqD_of (n := 0) (py_tab a) (py_tab b) (by simp only [PyData.canLay0, lay_tab]) (by simp only [PyData.canLay0, lay_tab]) (by simp only [PyData.depth]; omega) (by simp only [PyData.depth]; omega)]
  simp only [PyData.eqv, eqv_tab]
theorem eq_non_tab (b : Mat) : eqD .non (tabD b) = some false := by
  have h2 := dep_tab b
  rw [eqD_of (n := 0) (p := .none) rfl (py_tab b) (by simp only [PyData.canLay0]) (by simp only [PyData.canLay0, lay_tab]) (by simp [PyData.depth]) (by simp only [PyData.depth]; omega)]
  simp only [PyData.eqv]
def zq (n : Nat) (M rs : Mat) : Bool := !negD n (out n M n) && decide (out n M n = rs)
theorem eq_close (n : Nat) (M rs : Mat) : eqD (closeR n M) (tabD rs) = some (zq n M rs) := by
  unfold closeR zq
  by_cases h : negD n (out n M n) = true
  · rw [if_pos h, eq_non_tab, h]; rfl
  · rw [if_neg h, eq_tab]
    have h : negD n (out n M n) = false := by simpa using h
    rw [h]; rfl
def toO : D → Option Int
  | .int v => some v
  | _ => none
def toR : D → List (Option Int)
  | .tup xs => xs.map toO
  | _ => []
def toMat : D → Mat
  | .tup rows => rows.map toR
  | _ => []
theorem oD_toO {d : D} (h : isB d = true) : oD (toO d) = d := by cases d <;> first | rfl | cases h
theorem row_to {n : Int} {d : D} (h : rowOk n d = true) : d = .tup ((toR d).map oD) ∧ ((toR d).length : Int) = n := by
  cases d with
  | tup xs =>
    simp only [rowOk, Bool.and_eq_true, decide_eq_true_eq, List.all_eq_true] at h
    refine ⟨?_, by simp only [toR, List.length_map, h.1]⟩
    simp only [toR, List.map_map]
    congr 1
    conv => lhs; rw [← List.map_id xs]
    exact List.map_congr_left fun x hx => (oD_toO (h.2 x hx)).symm
  | _ => cases h
theorem tbl_to {d : D} (h : isTbl d = true) : ∃ n rs, d = tabD rs ∧ toMat d = rs ∧ Sq n rs ∧ 1 ≤ n ∧ n ≤ 6 := by
  cases d with
  | tup rows =>
    simp only [isTbl, Bool.and_eq_true, decide_eq_true_eq, List.all_eq_true] at h
    obtain ⟨⟨h1, h2⟩, h3⟩ := h
    refine ⟨rows.length, rows.map toR, ?_, rfl, ⟨by simp, fun r hr => ?_⟩, h1, h2⟩
    · simp only [tabD, List.map_map]
      congr 1
      conv => lhs; rw [← List.map_id rows]
      exact List.map_congr_left fun x hx => (row_to (h3 x hx)).1
    · obtain ⟨d, hd, e⟩ := List.mem_map.mp hr
      have := (row_to (h3 d hd)).2
      rw [e] at this
      omega
  | _ => cases h
theorem to_tab (rs : Mat) : toMat (tabD rs) = rs := by
  simp only [toMat, tabD, List.map_map]
  conv => rhs; rw [← List.map_id rs]
  refine List.map_congr_left fun r _ => ?_
  simp only [Function.comp, toR, List.map_map]
  conv => rhs; rw [show id r = r from rfl, ← List.map_id r]
  refine List.map_congr_left fun x _ => ?_
  cases x <;> rfl
theorem isTbl_tab {n : Nat} {rs : Mat} (s : Sq n rs) (h1 : 1 ≤ n) (h6 : n ≤ 6) : isTbl (tabD rs) = true := by
  simp only [isTbl, tabD, List.length_map, s.1, h1, h6, decide_true, Bool.true_and, List.all_map, List.all_eq_true]
  intro r hr
  simp only [Function.comp, rowOk, List.length_map, s.2 r hr, decide_true, Bool.true_and, List.all_map, List.all_eq_true]
  intro x _
  cases x <;> rfl
/-- a row whose bounds are all at most 0 -/
def le0 (r : List (Option Int)) : Bool := r.all fun x => match x with | some v => decide (v ≤ 0) | none => false
def zoneB (rs : Mat) : Bool := le0 (rw_ rs 0) && zq rs.length (dl 0 rs) rs
def isZn (d : D) : Bool := isTbl d && zoneB (toMat d)
theorem mat_ext {n : Nat} {a b : Mat} (sa : Sq n a) (sb : Sq n b) (h : ∀ i j, i < n → j < n → gt a i j = gt b i j) : a = b := by
  refine List.ext_getElem? fun i => ?_
  by_cases hi : i < n
  · rw [(sa.row hi).1, (sb.row hi).1]
    congr 1
    refine List.ext_getElem? fun j => ?_
    by_cases hj : j < n
    · rw [sa.at hi hj, sb.at hi hj, h i j hi hj]
    · rw [List.getElem?_eq_none (by rw [(sa.row hi).2]; omega), List.getElem?_eq_none (by rw [(sb.row hi).2]; omega)]
  · rw [List.getElem?_eq_none (by rw [sa.1]; omega), List.getElem?_eq_none (by rw [sb.1]; omega)]
theorem gt_zero {n : Nat} {rs : Mat} (s : Sq n rs) : ∀ m, m ≤ n → ∀ i j, i < n → j < n → gt (zeroM rs m) i j = if (i = 0 ∧ j < m) ∨ (i = j ∧ j < m) then tightO (gt rs i j) (some 0) else gt rs i j
  | 0, _, i, j, hi, hj => by simp [zeroM]
  | m + 1, hm, i, j, hi, hj => by
    have ih := gt_zero s m (by omega)
    have hmn : m < n := by omega
    have h0 : 0 < n := by omega
    have sz := sq_zero s m (by omega)
    rw [show zeroM rs (m + 1) = put (put (zeroM rs m) 0 m (tightO (gt (zeroM rs m) 0 m) (some 0))) m m (tightO (gt (zeroM rs m) m m) (some 0)) from rfl]
    rw [gt_put (sz.put h0) hmn hmn, gt_put sz h0 hmn]
    by_cases h1 : i = m ∧ j = m
    · obtain ⟨e1, e2⟩ := h1
      subst e1; subst e2
      rw [if_pos ⟨rfl, rfl⟩, if_pos (.inr ⟨rfl, by omega⟩), ih _ _ hmn hmn]
      rw [if_neg (by omega)]
    · rw [if_neg h1]
      by_cases h2 : i = 0 ∧ j = m
      · obtain ⟨e1, e2⟩ := h2
        subst e1; subst e2
        rw [if_pos ⟨rfl, rfl⟩, if_pos (.inl ⟨rfl, by omega⟩), ih _ _ h0 hmn, if_neg (by omega)]
      · rw [if_neg h2, ih i j hi hj]
        by_cases h3 : (i = 0 ∧ j < m) ∨ (i = j ∧ j < m)
        · rw [if_pos h3, if_pos (by omega)]
        · rw [if_neg h3, if_neg (by omega)]
theorem tight_id {x : Option Int} (h : ∃ v, x = some v ∧ v ≤ 0) : tightO x (some 0) = x := by
  obtain ⟨v, rfl, hv⟩ := h
  by_cases h : v < 0
  · simp [tightO, lessO, h]
  · have : v = 0 := by omega
    subst this; simp [tightO, lessO]
theorem dg_zero {n : Nat} {rs : Mat} (s : Sq n rs) : Dg n (zeroM rs n) := ⟨sq_zero s n (Nat.le_refl n), fun i hi => by
  rw [gt_zero s n (Nat.le_refl n) i i hi hi, if_pos (.inr ⟨rfl, hi⟩)]
  obtain ⟨v, h, _⟩ := tight0 (gt rs i i)
  exact ⟨v, h⟩⟩
theorem r0_zero {n : Nat} {rs : Mat} (s : Sq n rs) : R0 n (zeroM rs n) := ⟨sq_zero s n (Nat.le_refl n), fun j hj => by
  rw [gt_zero s n (Nat.le_refl n) 0 j (by omega) hj, if_pos (.inl ⟨rfl, hj⟩)]
  exact tight0 _⟩
theorem le0_iff {n : Nat} {rs : Mat} (s : Sq n rs) (h1 : 1 ≤ n) : le0 (rw_ rs 0) = true ↔ ∀ j, j < n → ∃ v, gt rs 0 j = some v ∧ v ≤ 0 := by
  unfold le0
  rw [List.all_eq_true]
  constructor
  · intro h j hj
    have hm : gt rs 0 j ∈ rw_ rs 0 := List.mem_of_getElem? (s.at (by omega) hj)
    have := h _ hm
    cases hg : gt rs 0 j with
    | none => rw [hg] at this; cases this
    | some v => rw [hg] at this; exact ⟨v, rfl, by simpa using this⟩
  · intro h x hx
    obtain ⟨j, hj, e⟩ := List.mem_iff_getElem.mp hx
    have hj2 : j < n := by rw [(s.row (by omega)).2] at hj; exact hj
    obtain ⟨v, hv, h0⟩ := h j hj2
    have := s.at (i := 0) (by omega) hj2
    rw [List.getElem?_eq_getElem hj, e] at this
    rw [Option.some.inj this, hv]
    simpa using h0
theorem zone_eq {n : Nat} {rs : Mat} (s : Sq n rs) (h1 : 1 ≤ n) : zq n (zeroM rs n) rs = (le0 (rw_ rs 0) && zq n (dl 0 rs) rs) := by
  by_cases h : le0 (rw_ rs 0) = true
  · rw [h, Bool.true_and]
    have h' := (le0_iff s h1).mp h
    have : zeroM rs n = dl 0 rs := mat_ext (sq_zero s n (Nat.le_refl n)) (sq_dl s) fun i j hi hj => by
      rw [gt_zero s n (Nat.le_refl n) i j hi hj, gt_dl s hi hj]
      by_cases hij : i = j
      · rw [if_pos hij, if_pos (.inr ⟨hij, hj⟩)]
      · rw [if_neg hij]
        by_cases h0 : i = 0
        · subst h0
          rw [if_pos (.inl ⟨rfl, hj⟩)]
          exact tight_id (h' j hj)
        · rw [if_neg (by omega)]
    rw [this]
  · have h2 : le0 (rw_ rs 0) = false := by simpa using h
    rw [h2, Bool.false_and]
    unfold zq
    rw [Bool.and_eq_false_iff]
    refine .inr (decide_eq_false fun e => h ?_)
    have := out_inv (S := R0 n) r0_step (r0_zero s) n (Nat.le_refl n)
    rw [e] at this
    exact (le0_iff s h1).mpr this.2
theorem E_is_zone_of_no (k : Nat) (n : Int) (d : D) (h : okT d) (hn : isTab n d = false) (ho : owned d = false) : lev cM cT (k + 5) "is_zone_of" [.int n, d] = .ok (.bl false, [none, none]) := by
  have h1 := E_is_table_in k n d h
  rw [hn] at h1
  unfold back1 at h1
  simp only [ho, Bool.false_eq_true, if_false] at h1
  have hb : borOf [D.int n, d] = [] := by rw [bor_ni, ho]; rfl
  have hf := frz_bare ho
  clear h hn
  walk_at "go is_zone_of"
  simp only [hb]
  clear hb
  apply wp_eq
  walk_at "ev is_zone_of"
def bdD : D → D
  | .int v => .bl (decide (0 < v))
  | _ => .bl true
theorem any_bd {m : Mk} (r : List (Option Int)) : callB .any [.lst m ((r.map oD).map bdD)] = some (.bl (!le0 r)) := by
  have h := bools_bl (fun d => match d with | .int v => decide (0 < v) | _ => true) (r.map oD) bdD fun d hd => by
    obtain ⟨x, rfl⟩ := map_oD_mem hd
    cases x <;> rfl
  rw [bl_any h]
  congr 2
  unfold le0
  rw [List.map_map, List.any_map, List.not_all_eq_any_not]
  congr 1
  funext x
  cases x with
  | none => rfl
  | some v =>
    simp only [Function.comp, oD]
    by_cases hv : 0 < v
    · simp [hv]
    · simp [hv]; omega
theorem okT_tab {n : Nat} {rs : Mat} (s : Sq n rs) (hn : n ≤ 1000) : okT (tabD rs) := ⟨rfl, fun rows e => by
  cases e
  refine ⟨by rw [List.length_map, s.1]; exact hn, fun r hr => ?_⟩
  obtain ⟨r', hr', rfl⟩ := List.mem_map.mp hr
  refine ⟨rfl, fun xs e => ?_⟩
  cases e
  refine ⟨by rw [List.length_map, s.2 r' hr']; exact hn, fun x hx => ?_⟩
  obtain ⟨y, rfl⟩ := map_oD_mem hx
  cases y <;> rfl⟩
theorem isTab_tab {n : Nat} {rs : Mat} (s : Sq n rs) : isTab n (tabD rs) = true := by
  simp only [isTab, tabD, List.length_map, s.1, decide_true, Bool.true_and, List.all_map, List.all_eq_true]
  intro r hr
  simp only [Function.comp, rowOk, List.length_map, s.2 r hr, decide_true, Bool.true_and, List.all_map, List.all_eq_true]
  intro x _
  cases x <;> rfl
theorem E_is_zone_of_tab (k : Nat) (n : Nat) (rs : Mat) (s : Sq n rs) (h1 : 1 ≤ n) (hn : n ≤ 1000) : lev cM cT (k + 5) "is_zone_of" [.int n, tabD rs] = .ok (.bl (zoneB rs), [none, none]) := by
  have h2 := E_is_table_in k n (tabD rs) (okT_tab s hn)
  rw [isTab_tab s] at h2
  have hk : back1 (tabD rs) = none := rfl
  rw [hk] at h2
  have h3 := close_tab k n rs s hn
  have hb : borOf [D.int n, tabD rs] = [] := rfl
  have a2 : (rs.map fun r => D.tup (r.map oD))[0]? = some (.tup ((rw_ rs 0).map oD)) := by rw [List.getElem?_map, (s.row (by omega)).1]; rfl
  have a1 : item (rs.map fun r => D.tup (r.map oD)) 0 = some 0 := by
    have := item_nat (xs := rs.map fun r => D.tup (r.map oD)) (j := 0) (by rw [List.length_map, s.1]; omega)
    simpa using this
  have hl : ((rw_ rs 0).map oD).length ≤ sizeLine := by rw [List.length_map, (s.row (by omega)).2]; exact Nat.le_trans hn (by decide)
  have he := eq_close n (dl 0 rs) rs
  have hs := s.1
  unfold zoneB
  rw [hs]
  walk_at "go is_zone_of"
  simp only [hb]
  clear hb s hk hs
  apply wp_eq
  have hoc : owned (closeR n (dl 0 rs)) = false := by unfold closeR; split <;> rfl
  generalize closeR n (dl 0 rs) = c at *
  simp only [tabD] at h2 h3 he ⊢
  walk_at "ev is_zone_of"
  refine lc_map (fun e => ∃ o, e = [some (.int n), some (.tup (rs.map fun r => .tup (r.map oD))), o]) bdD hl ⟨_, rfl⟩ ?_ ?_
  · rintro d hd e ⟨o, rfl⟩
    obtain ⟨x, rfl⟩ := map_oD_mem hd
    clear hd
    cases x with
    | none => simp only [oD]; walk_at "ev is_zone_of"; simp [bdD]
    | some v => simp only [oD]; walk_at "ev is_zone_of"; simp [bdD]
  · rintro e ⟨o, rfl⟩
    have hany := any_bd (m := .own) (rw_ rs 0)
    by_cases hle : le0 (rw_ rs 0) = true
    · rw [hle] at hany
      walk_at "ev is_zone_of"
    · have hle : le0 (rw_ rs 0) = false := by simpa using hle
      rw [hle] at hany
      walk_at "ev is_zone_of"
theorem isTab_isTbl {d : D} (h1 : isTbl d = false) (rows : List D) (e : d = .tup rows) (c1 : 1 ≤ rows.length) (c2 : rows.length ≤ 6) : isTab rows.length d = false := by
  subst e
  simp only [isTbl, c1, c2, decide_true, Bool.true_and] at h1
  simp only [isTab, decide_true, Bool.true_and, h1]
theorem E_is_zone_value (k : Nat) (d : D) (v : Val d) : lev cM cT (k + 6) "is_zone_value" [d] = .ok (.bl (isZn d), [none]) := by
  have h := v.okT
  have ho := v.own
  cases d with
  | tup rows =>
    have hb : borOf [D.tup rows] = [] := rfl
    by_cases ht : isTbl (.tup rows) = true
    · obtain ⟨n, rs, e, em, s, h1, h6⟩ := tbl_to ht
      have hz := E_is_zone_of_tab k n rs s h1 (by omega)
      have hl : rows.length = n := by
        simp only [tabD] at e
        cases e
        rw [List.length_map, s.1]
      have hzn : isZn (.tup rows) = zoneB rs := by unfold isZn; rw [ht, em]; rfl
      rw [hzn]
      rw [← e] at hz
      subst hl
      have c1 : (1 : Int) ≤ (rows.length : Int) := by omega
      have c2 : (rows.length : Int) ≤ 6 := by omega
      clear e em s h v ht hzn
      walk_at "go is_zone_value"
      simp only [hb]
      clear hb
      apply wp_eq
      walk_at "ev is_zone_value"
    · have ht : isTbl (.tup rows) = false := by simpa using ht
      have hzn : isZn (.tup rows) = false := by unfold isZn; rw [ht]; rfl
      rw [hzn]
      by_cases c1 : (1 : Int) ≤ (rows.length : Int)
      · by_cases c2 : (rows.length : Int) ≤ 6
        · have hz := E_is_zone_of_no k rows.length (.tup rows) h (isTab_isTbl ht rows rfl (by omega) (by omega)) rfl
          clear h v ht hzn
          walk_at "go is_zone_value"
          simp only [hb]
          clear hb
          apply wp_eq
          walk_at "ev is_zone_value"
        · clear h v ht hzn
          walk_at "go is_zone_value"
          simp only [hb]
          clear hb
          apply wp_eq
          walk_at "ev is_zone_value"
      · clear h v ht hzn
        walk_at "go is_zone_value"
        simp only [hb]
        clear hb
        apply wp_eq
        walk_at "ev is_zone_value"
  | lst m ds => cases m with
    | own => cases ho
    | _ => kernel_rfl
  | dic m ks ds => cases m with
    | own => cases ho
    | _ => kernel_rfl
  | fn x => cases h.1
  | ty n => cases h.1
  | _ => kernel_rfl
theorem E_is_zone (k : Nat) (d : D) (v : Val d) : lev cM cT (k + 7) "is_zone" [d] = .ok (.bl (isZn d), [none]) := by
  have h1 := E_is_zone_value k d v
  have hb : borOf [d] = [] := by rw [bor_1, v.own]; rfl
  have ho := v.own
  have hf := frz_bare ho
  clear v
  walk_at "go is_zone"
  simp only [hb]
  clear hb
  apply wp_eq
  walk_at "ev is_zone"
theorem E_law_is_zone (k : Nat) (d : D) (v : Val d) : lev cM cT (k + 6) "_law_is_zone" [d] = .ok (.bl (isZn d), [none]) := by
  have h1 := E_law_is_table k d v
  have hb : borOf [d] = [] := by rw [bor_1, v.own]; rfl
  have ho := v.own
  have hf := frz_bare ho
  by_cases ht : isTbl d = true
  · obtain ⟨n, rs, e, em, s, n1, n6⟩ := tbl_to ht
    have h2 := law_closed_tab (k + 1) n rs s (by omega) (dg_zero s)
    have he := eq_close n (zeroM rs n) rs
    have hz : isZn d = zq n (zeroM rs n) rs := by
      rw [zone_eq s n1]
      unfold isZn zoneB
      rw [ht, em, s.1]; rfl
    rw [hz]
    rw [ht] at h1
    have hoc : owned (closeR n (zeroM rs n)) = false := by unfold closeR; split <;> rfl
    generalize closeR n (zeroM rs n) = c at *
    rw [← e] at h2 he
    clear e em s hz ht v
    walk_at "go _law_is_zone"
    simp only [hb]
    clear hb
    apply wp_eq
    walk_at "ev _law_is_zone"
  · have ht : isTbl d = false := by simpa using ht
    rw [ht] at h1
    have hz : isZn d = false := by unfold isZn; rw [ht]; rfl
    rw [hz]
    clear v ht hz
    walk_at "go _law_is_zone"
    simp only [hb]
    clear hb
    apply wp_eq
    walk_at "ev _law_is_zone"
end K19

set_option Elab.async false
set_option linter.all false
set_option maxRecDepth 100000
set_option maxHeartbeats 1000000
namespace K19
open PySem L2 Ev
local macro_rules | `(tactic| walk_at "go _law_drawn_table") => `(tactic| (rw [lev_eq (f := d__law_drawn_table) (by rfl) rfl, en__law_drawn_table]; have hb : defBody d__law_drawn_table.st = defBody d__law_drawn_table.st := rfl; (conv at hb => (rhs; whnf)); rw [hb]; clear hb))
local macro_rules | `(tactic| walk_at "ev _law_drawn_table") => `(tactic| simp (dsimp := false) (decide := true) only [↓bin_eq, orT_s, orT_n, ↓to_bnd, wp_ok, bnd_assoc, bnd_ok, bnd_st, ↓to_lcF, ↓to_forF, ↓to_whileF, b_addT, b_addLo, b_addLf, pl_nil, pl_cons, plO_s, plO_n, c_hanc, evSs_seq, evSs_end, seq_nx, seq_rt, seq_bk, seq_ct, seq_bnd, bnd_seq, seq_for, seq_while, fin_nx, fin_rt, asgNs_nil, asgNs_cons, asgEa_nil, asgEa_nam, asgEa_sub, isOL_own, pp_0, List.cons_append, take_hn, ow_dfro, ow_dext, takeF_v, takeF_h, free_nil, free_cons, wipe_nil, wipe_cons, back_eq, patch_nil, patch_cons, li_3, li_4, li_5, li_6, li_7, frz_fro, frz_ext, frz_own, frz_non, frz_bl, frz_str, evS, ownOf, List.filterMap_cons, List.filterMap_nil, List.map_cons, List.map_nil, Option.map_some, Option.map_none, asgT, asgI, pp_1, List.nil_append, lenOk2, frzL_nil, frzL_cons, frz_tup, Int.mul_one, plainIx, intE, itE_t, itE_l, item_0, item_1, item_2, li_0, li_1, li_2, asgXs, takes_nil, takes_cons, swap, namesOn, headLine, Expr.pos, ed2, ed3, foldedForSure, constantsAlone, List.all_cons, List.all_nil, List.length_cons, List.length_nil, Nat.reduceAdd, Nat.reduceBEq, Nat.reduceBNe, Bool.or_true, Bool.or_false, Bool.true_or, Bool.false_or, beq_self_eq_true, bne_self_eq_false, List.set_cons_zero, List.set_cons_succ, evT, evTs, evE, evO, evA, evB, evP, evF, evI, evW, ofO_s, c_val, c_han, g_0, g_s, sole_v, sole_h, take_v, ow_non, ow_bl, ow_int, ow_str, ow_tup, ow_own, ow_fro, ow_ext, ow_ty, ow_fn, ow_dic, b_add, b_sub, b_mod, b_div, b_mul, n_non, n_bl, n_int, n_str, n_tup, n_lst, n_dic, m_is, m_isnot, m_lt, m_le, m_gt, m_ge, m_eq, m_ne, q_int, q_non1, q_non2, q_bl, t_bl, t_int, t_non, t_tup, t_lst, s_and, s_or, plainOp, gOf_N, gOf_bor, sub_N, name_eq, asgN_eq, call_eq, lend_nil, lend_val, lend_han, gb_nil, gb_none, gb_some, noStar, Bool.false_eq_true, if_false, if_true, Bool.not_true, Bool.not_false, outsOf, decide_true, decide_false, Bool.true_and, Bool.and_true, Bool.false_and, Bool.and_false, reduceCtorEq, Option.map_some, frz, frz_int, contents_nil, contents_cons, bl_int, bl_bl, bl_lenT, bl_lenL, bl_abs, bl_max, bl_min, bl_listT, bl_listL, bl_tupT, bl_tupL, bl_any, bl_all, is_int, is_ty, is_non_int, is_non_bool, is_non_tuple, is_non_list, is_non_str, is_non_dict, is_bl_int, is_bl_bool, is_bl_tuple, is_bl_list, is_bl_str, is_bl_dict, is_int_bool, is_int_tuple, is_int_list, is_int_str, is_int_dict, is_str_int, is_str_bool, is_str_tuple, is_str_list, is_str_str, is_str_dict, is_tup_int, is_tup_bool, is_tup_tuple, is_tup_list, is_tup_str, is_tup_dict, is_lst_int, is_lst_bool, is_lst_tuple, is_lst_list, is_lst_str, is_lst_dict, is_dic_int, is_dic_bool, is_dic_tuple, is_dic_list, is_dic_str, is_dic_dict, l__law_drawn_table_row, v__law_drawn_table_row, o__law_drawn_table_row, l__law_drawn_table_size, v__law_drawn_table_size, o__law_drawn_table_size, l__law_drawn_table_found, v__law_drawn_table_found, o__law_drawn_table_found, l__law_drawn_table_range, w__law_drawn_table_range, l__law_drawn_table_some, v__law_drawn_table_some, o__law_drawn_table_some, l__law_drawn_table_column, v__law_drawn_table_column, o__law_drawn_table_column, l__law_drawn_table_tuple, w__law_drawn_table_tuple, l__law_drawn_table_way, v__law_drawn_table_way, o__law_drawn_table_way, l__law_drawn_table_bound, v__law_drawn_table_bound, o__law_drawn_table_bound, l__law_drawn_table__law_roll, w__law_drawn_table__law_roll, l__law_drawn_table_dice, v__law_drawn_table_dice, o__law_drawn_table_dice, l__law_drawn_table_most, v__law_drawn_table_most, o__law_drawn_table_most, d__law_drawn_table_size, d__law_drawn_table_found, x__law_drawn_table_size_found, k__law_roll, g__law_roll, r__law_roll, e__law_roll, k_range, g_range, f_range, r_range, e_range, k_tuple, g_tuple, f_tuple, b_tuple, y_tuple, r_tuple, e_tuple, *])
def tupsD (rs : Mat) : D := .lst .own (rs.map fun r => .tup (r.map oD))
def rowsD (r : List (Option Int)) : D := .lst .own (r.map oD)
theorem bor_d2 {d x : D} (h : owned d = true) (hx : owned x = false) : borOf [d, x] = [0] := by
  unfold borOf
  simp [h, hx, List.range_succ]
theorem Dice.mono {a b : Nat} {d : D} (h : Dice a d) (l : a ≤ b) : Dice b d := by
  obtain ⟨x, y, z, e, hc⟩ := h
  exact ⟨x, y, z, e, by omega⟩
theorem drawn_table (k : Nat) {m : Nat} {d : D} (h : Dice m d) (hm : m + 100 < 2 ^ 59) : ∃ rs n d', lev cM cT (k + 3) "_law_drawn_table" [d, .int 5] = .ok (tabD rs, [some d', none]) ∧ Sq n rs ∧ 1 ≤ n ∧ n ≤ 5 ∧ Dice (m + 100) d' := by
  have hb : borOf [d, .int 5] = [0] := bor_d2 h.own rfl
  obtain ⟨r, d1, h1, r0, r1, dc1⟩ := roll_spec k h (by omega) 5 (by decide) (by decide)
  have od := h.own
  have od1 := dc1.own
  obtain ⟨n, hn⟩ : ∃ n : Nat, 1 + r = (n : Int) := ⟨(1 + r).toNat, by omega⟩
  have n1 : 1 ≤ n := by omega
  have n5 : n ≤ 5 := by omega
  have rg := rgOk_nat (n := n) (by omega)
  have c0 : ([0] : List Nat).contains 2 = false := by decide
  have c3 : ([0] : List Nat).contains 3 = false := by decide
  have c4 : ([0] : List Nat).contains 4 = false := by decide
  have c5 : ([0] : List Nat).contains 5 = false := by decide
  have c6 : ([0] : List Nat).contains 6 = false := by decide
  have c7 : ([0] : List Nat).contains 7 = false := by decide
  have c8 : ([0] : List Nat).contains 8 = false := by decide
  clear h r0 r1
  suffices hw : Wp (lev cM cT (k + 3) "_law_drawn_table" [d, .int 5]) (fun y => ∃ rs n d', y = (tabD rs, [some d', none]) ∧ Sq n rs ∧ 1 ≤ n ∧ n ≤ 5 ∧ Dice (m + 100) d') by
    obtain ⟨y, e, rs, n, d', rfl, q⟩ := hw
    exact ⟨rs, n, d', e, q⟩
  walk_at "go _law_drawn_table"
  simp only [hb]
  clear hb
  walk_at "ev _law_drawn_table"
  refine for_wp (fun i e => ∃ d' rs o4 o5 o6 o7 o8, e = [some d', some (.int 5), some (.int n), some (tupsD rs), o4, o5, o6, o7, o8] ∧ rs.length = i ∧ (∀ r ∈ rs, r.length = n) ∧ Dice (m + 1 + 15 * i) d') (fun _ _ => False) ⟨_, [], _, _, _, _, _, rfl, rfl, by simp, dc1⟩ ?_ ?_ (fun _ _ z => z.elim)
  · rintro i d e hj ⟨d0, rs, o4, o5, o6, o7, o8, rfl, hrs, hrl, dc⟩
    obtain ⟨rfl, hi⟩ := rg_get hj
    have hi : i < n := by simpa using hi
    clear hj h1 od od1 dc1
    walk_at "ev _law_drawn_table"
    refine for_wp (fun j e => ∃ d' acc o6 o7 o8, e = [some d', some (.int 5), some (.int n), some (tupsD rs), some (.int i), some (rowsD acc), o6, o7, o8] ∧ acc.length = j ∧ Dice (m + 1 + 15 * i + 3 * j) d') (fun _ _ => False) ⟨_, [], _, _, _, rfl, rfl, dc⟩ ?_ ?_ (fun _ _ z => z.elim)
    · rintro j d e hj ⟨d0, acc, o6, o7, o8, rfl, ha, dc⟩
      obtain ⟨rfl, hjn⟩ := rg_get hj
      have hjn : j < n := by simpa using hjn
      obtain ⟨w, d1, h1, w0, w5, dc1⟩ := roll_spec k dc (by omega) 5 (by decide) (by decide)
      obtain ⟨x, d2, h2, x0, x1, dc2⟩ := roll_spec k dc1 (by omega) 12 (by decide) (by decide)
      obtain ⟨y, d3, h3, y0, y1, dc3⟩ := roll_spec k dc1 (by omega) 6 (by decide) (by decide)
      obtain ⟨z, d4, h4, z0, z1, dc4⟩ := roll_spec k dc2 (by omega) 6 (by decide) (by decide)
      have od := dc.own
      have od1 := dc1.own
      have od2 := dc2.own
      have od3 := dc3.own
      have od4 := dc4.own
      have hl : (acc.map oD).length < sizeLine := by
        rw [List.length_map]
        have : (1000 : Nat) < sizeLine := by decide
        omega
      have fin1 := dc1.mono (show m + 1 + 15 * i + 3 * j + 1 ≤ m + 1 + 15 * i + 3 * (j + 1) by omega)
      have fin2 := dc2.mono (show m + 1 + 15 * i + 3 * j + 1 + 1 ≤ m + 1 + 15 * i + 3 * (j + 1) by omega)
      have fin3 := dc3.mono (show m + 1 + 15 * i + 3 * j + 1 + 1 ≤ m + 1 + 15 * i + 3 * (j + 1) by omega)
      have fin4 := dc4.mono (show m + 1 + 15 * i + 3 * j + 1 + 1 + 1 ≤ m + 1 + 15 * i + 3 * (j + 1) by omega)
      have hal : ∀ v : Option Int, (acc ++ [v]).length = j + 1 := fun v => by simp [ha]
      have hap : ∀ v : Option Int, (acc ++ [v]).map oD = acc.map oD ++ [oD v] := fun v => by simp
      clear dc dc1 dc2 dc3 dc4 hj ha w0 w5 x0 x1 y0 y1 z0 z1 hm hrs hrl rg hn
      unfold rowsD
      by_cases e1 : w < 2
      · by_cases e2 : (i : Int) = (j : Int)
        · by_cases e3 : 0 < y
          · walk_at "ev _law_drawn_table"
            exact ⟨_, acc ++ [some 0], _, _, _, by rw [hap]; rfl, hal _, fin3⟩
          · walk_at "ev _law_drawn_table"
            exact ⟨_, acc ++ [none], _, _, _, by rw [hap]; rfl, hal _, fin3⟩
        · walk_at "ev _law_drawn_table"
          exact ⟨_, acc ++ [none], _, _, _, by rw [hap]; rfl, hal _, fin1⟩
      · by_cases e4 : w < 4
        · by_cases e2 : (i : Int) = (j : Int)
          · by_cases e3 : 0 < z
            · walk_at "ev _law_drawn_table"
              exact ⟨_, acc ++ [some 0], _, _, _, by rw [hap]; rfl, hal _, fin4⟩
            · walk_at "ev _law_drawn_table"
              exact ⟨_, acc ++ [some _], _, _, _, by rw [hap]; rfl, hal _, fin4⟩
          · walk_at "ev _law_drawn_table"
            exact ⟨_, acc ++ [some _], _, _, _, by rw [hap]; rfl, hal _, fin2⟩
        · by_cases e2 : (i : Int) = (j : Int)
          · by_cases e3 : 0 < z
            · walk_at "ev _law_drawn_table"
              exact ⟨_, acc ++ [some 0], _, _, _, by rw [hap]; rfl, hal _, fin4⟩
            · walk_at "ev _law_drawn_table"
              exact ⟨_, acc ++ [some _], _, _, _, by rw [hap]; rfl, hal _, fin4⟩
          · walk_at "ev _law_drawn_table"
            exact ⟨_, acc ++ [some _], _, _, _, by rw [hap]; rfl, hal _, fin2⟩
    · rintro e ⟨d0, acc, o6, o7, o8, rfl, ha, dc⟩
      rw [rgD_len, Int.toNat_natCast] at ha dc
      have hl : (rs.map fun r => D.tup (r.map oD)).length < sizeLine := by
        rw [List.length_map]
        have : (1000 : Nat) < sizeLine := by decide
        omega
      have hp := plain_oD acc
      have od := dc.own
      have fin := dc.mono (show m + 1 + 15 * i + 3 * n ≤ m + 1 + 15 * (i + 1) by omega)
      have hap : ((rs ++ [acc]).map fun r => D.tup (r.map oD)) = (rs.map fun r => D.tup (r.map oD)) ++ [.tup (acc.map oD)] := by simp
      have hrl2 : ∀ r ∈ rs ++ [acc], r.length = n := fun r hr => by
        rcases List.mem_append.mp hr with q | q
        · exact hrl r q
        · rw [List.mem_singleton.mp q]; exact ha
      have hrs2 : (rs ++ [acc]).length = i + 1 := by simp [hrs]
      clear dc hrs hrl ha hm rg hn
      unfold tupsD rowsD
      walk_at "ev _law_drawn_table"
      exact ⟨_, rs ++ [acc], _, _, _, _, _, by rw [hap], hrs2, hrl2, fin⟩
  · rintro e ⟨d0, rs, o4, o5, o6, o7, o8, rfl, hrs, hrl, dc⟩
    rw [rgD_len, Int.toNat_natCast] at hrs dc
    have hp := plain_tup rs
    have od0 := dc.own
    have fin := dc.mono (show m + 1 + 15 * n ≤ m + 100 by omega)
    clear dc
    unfold tupsD
    walk_at "ev _law_drawn_table"
    exact ⟨rs, n, d0, rfl, ⟨hrs, hrl⟩, n1, n5, fin⟩
end K19

set_option Elab.async false
set_option linter.all false
set_option maxRecDepth 100000
set_option maxHeartbeats 1000000
namespace K19
open PySem L2 Ev
local macro_rules | `(tactic| walk_at "go _law_drawn_zone") => `(tactic| (rw [lev_eq (f := d__law_drawn_zone) (by rfl) rfl, en__law_drawn_zone]; have hb : defBody d__law_drawn_zone.st = defBody d__law_drawn_zone.st := rfl; (conv at hb => (rhs; whnf)); rw [hb]; clear hb))
local macro_rules | `(tactic| walk_at "ev _law_drawn_zone") => `(tactic| simp (dsimp := false) (decide := true) only [↓bin_eq, orT_s, orT_n, ↓to_bnd, wp_ok, bnd_assoc, bnd_ok, bnd_st, ↓to_lcF, ↓to_forF, ↓to_whileF, b_addT, b_addLo, b_addLf, pl_nil, pl_cons, plO_s, plO_n, c_hanc, evSs_seq, evSs_end, seq_nx, seq_rt, seq_bk, seq_ct, seq_bnd, bnd_seq, seq_for, seq_while, fin_nx, fin_rt, asgNs_nil, asgNs_cons, asgEa_nil, asgEa_nam, asgEa_sub, isOL_own, pp_0, List.cons_append, take_hn, ow_dfro, ow_dext, takeF_v, takeF_h, free_nil, free_cons, wipe_nil, wipe_cons, back_eq, patch_nil, patch_cons, li_3, li_4, li_5, li_6, li_7, frz_fro, frz_ext, frz_own, frz_non, frz_bl, frz_str, evS, ownOf, List.filterMap_cons, List.filterMap_nil, List.map_cons, List.map_nil, Option.map_some, Option.map_none, asgT, asgI, pp_1, List.nil_append, lenOk2, frzL_nil, frzL_cons, frz_tup, Int.mul_one, plainIx, intE, itE_t, itE_l, item_0, item_1, item_2, li_0, li_1, li_2, asgXs, takes_nil, takes_cons, swap, namesOn, headLine, Expr.pos, ed2, ed3, foldedForSure, constantsAlone, List.all_cons, List.all_nil, List.length_cons, List.length_nil, Nat.reduceAdd, Nat.reduceBEq, Nat.reduceBNe, Bool.or_true, Bool.or_false, Bool.true_or, Bool.false_or, beq_self_eq_true, bne_self_eq_false, List.set_cons_zero, List.set_cons_succ, evT, evTs, evE, evO, evA, evB, evP, evF, evI, evW, ofO_s, c_val, c_han, g_0, g_s, sole_v, sole_h, take_v, ow_non, ow_bl, ow_int, ow_str, ow_tup, ow_own, ow_fro, ow_ext, ow_ty, ow_fn, ow_dic, b_add, b_sub, b_mod, b_div, b_mul, n_non, n_bl, n_int, n_str, n_tup, n_lst, n_dic, m_is, m_isnot, m_lt, m_le, m_gt, m_ge, m_eq, m_ne, q_int, q_non1, q_non2, q_bl, t_bl, t_int, t_non, t_tup, t_lst, s_and, s_or, plainOp, gOf_N, gOf_bor, sub_N, name_eq, asgN_eq, call_eq, lend_nil, lend_val, lend_han, gb_nil, gb_none, gb_some, noStar, Bool.false_eq_true, if_false, if_true, Bool.not_true, Bool.not_false, outsOf, decide_true, decide_false, Bool.true_and, Bool.and_true, Bool.false_and, Bool.and_false, reduceCtorEq, Option.map_some, frz, frz_int, contents_nil, contents_cons, bl_int, bl_bl, bl_lenT, bl_lenL, bl_abs, bl_max, bl_min, bl_listT, bl_listL, bl_tupT, bl_tupL, bl_any, bl_all, is_int, is_ty, is_non_int, is_non_bool, is_non_tuple, is_non_list, is_non_str, is_non_dict, is_bl_int, is_bl_bool, is_bl_tuple, is_bl_list, is_bl_str, is_bl_dict, is_int_bool, is_int_tuple, is_int_list, is_int_str, is_int_dict, is_str_int, is_str_bool, is_str_tuple, is_str_list, is_str_str, is_str_dict, is_tup_int, is_tup_bool, is_tup_tuple, is_tup_list, is_tup_str, is_tup_dict, is_lst_int, is_lst_bool, is_lst_tuple, is_lst_list, is_lst_str, is_lst_dict, is_dic_int, is_dic_bool, is_dic_tuple, is_dic_list, is_dic_str, is_dic_dict, l__law_drawn_zone_dot0, l__law_drawn_zone_turn, v__law_drawn_zone_turn, o__law_drawn_zone_turn, l__law_drawn_zone_range, w__law_drawn_zone_range, l__law_drawn_zone_rows, v__law_drawn_zone_rows, o__law_drawn_zone_rows, l__law_drawn_zone_row, v__law_drawn_zone_row, o__law_drawn_zone_row, l__law_drawn_zone_found, v__law_drawn_zone_found, o__law_drawn_zone_found, l__law_drawn_zone__law_closed, w__law_drawn_zone__law_closed, l__law_drawn_zone_size, v__law_drawn_zone_size, o__law_drawn_zone_size, l__law_drawn_zone_some, v__law_drawn_zone_some, o__law_drawn_zone_some, l__law_drawn_zone_tuple, w__law_drawn_zone_tuple, l__law_drawn_zone_column, l__law_drawn_zone__law_roll, l__law_drawn_zone_dice, v__law_drawn_zone_dice, o__law_drawn_zone_dice, l__law_drawn_zone_bound, l__law_drawn_zone_enumerate, w__law_drawn_zone_enumerate, k__law_closed, g__law_closed, r__law_closed, e__law_closed, k__law_roll, g__law_roll, r__law_roll, e__law_roll, k_enumerate, g_enumerate, f_enumerate, r_enumerate, e_enumerate, k_range, g_range, f_range, r_range, e_range, k_tuple, g_tuple, f_tuple, b_tuple, y_tuple, r_tuple, e_tuple, *])
def zr (i k : Nat) : List (Option Int) → List (Option Int)
  | [] => []
  | x :: r => (if i = k then some 0 else x) :: zr i (k + 1) r
theorem zr_len (i : Nat) : ∀ (r : List (Option Int)) (k : Nat), (zr i k r).length = r.length
  | [], k => rfl
  | x :: r, k => by simp only [zr, List.length_cons, zr_len i r (k + 1)]
def zD (i : Nat) : D → D
  | .tup [.int c, x] => if (i : Int) = c then .int 0 else x
  | d => d
theorem zD_ok (i : Nat) : ∀ (r : List (Option Int)) (k : Nat), (enD k (r.map oD)).map (zD i) = (zr i k r).map oD
  | [], k => rfl
  | x :: r, k => by
    simp only [List.map_cons, enD, zr, zD_ok i r (k + 1), zD]
    congr 1
    by_cases h : i = k
    · simp [h, oD]
    · have : ¬ (i : Int) = (k : Int) := by omega
      rw [if_neg this, if_neg h]
def noneM (n : Nat) : Mat := List.replicate n (List.replicate n none)
theorem sq_none (n : Nat) : Sq n (noneM n) := ⟨by simp [noneM], fun r hr => by
  unfold noneM at hr
  rw [List.eq_of_mem_replicate hr, List.length_replicate]⟩
theorem close_none (n : Nat) (h1 : 1 ≤ n) (h4 : n ≤ 4) : closeR n (zeroM (noneM n) n) = tabD (out n (zeroM (noneM n) n) n) := by
  have : negD n (out n (zeroM (noneM n) n) n) = false := by
    have : n = 1 ∨ n = 2 ∨ n = 3 ∨ n = 4 := by omega
    rcases this with h | h | h | h <;> subst h <;> decide +kernel
  unfold closeR
  rw [this]; rfl
theorem sq_step {n : Nat} (rs : Mat) (m i j : Nat) (hm : m < n) (hi : i < n) (hj : j < n) (h : Sq n rs) : Sq n (step m i j rs) := h.put hi
theorem mul_none (n : Nat) (h4 : n ≤ 4) : binop .Mult (.lst .own [.non]) (.int n) = some (.lst .own ((List.replicate n (none : Option Int)).map oD)) := by
  have : n = 0 ∨ n = 1 ∨ n = 2 ∨ n = 3 ∨ n = 4 := by omega
  rcases this with h | h | h | h | h <;> subst h <;> kernel_rfl
theorem drawn_zone (k : Nat) {m n : Nat} {d : D} (h : Dice m d) (hm : m + 1000 < 2 ^ 59) (n1 : 1 ≤ n) (n4 : n ≤ 4) : ∃ rs d', lev cM cT (k + 5) "_law_drawn_zone" [d, .int n] = .ok (tabD rs, [some d', none]) ∧ Sq n rs ∧ Dice (m + 1000) d' := by
  have hb : borOf [d, .int n] = [0] := bor_d2 h.own rfl
  have od := h.own
  have rg := rgOk_nat (n := n) (by omega)
  have rg30 : rgOk 30 = true := by decide
  have c2 : ([0] : List Nat).contains 2 = false := by decide
  have c3 : ([0] : List Nat).contains 3 = false := by decide
  have c4 : ([0] : List Nat).contains 4 = false := by decide
  have c5 : ([0] : List Nat).contains 5 = false := by decide
  have c6 : ([0] : List Nat).contains 6 = false := by decide
  have c7 : ([0] : List Nat).contains 7 = false := by decide
  have c8 : ([0] : List Nat).contains 8 = false := by decide
  suffices hw : Wp (lev cM cT (k + 5) "_law_drawn_zone" [d, .int n]) (fun y => ∃ rs d', y = (tabD rs, [some d', none]) ∧ Sq n rs ∧ Dice (m + 1000) d') by
    obtain ⟨y, e, rs, d', rfl, q⟩ := hw
    exact ⟨rs, d', e, q⟩
  walk_at "go _law_drawn_zone"
  simp only [hb]
  clear hb
  walk_at "ev _law_drawn_zone"
  refine for_wp (fun t e => ∃ d' o2 o3 o4 o5 o8, e = [some d', some (.int n), o2, o3, o4, o5, none, none, o8] ∧ plO o4 = true ∧ Dice (m + 32 * t) d')
    (fun x e => ∃ rs d' o2 o3 o4 o5 o8, x = tabD rs ∧ Sq n rs ∧ e = [some d', some (.int n), o2, o3, o4, o5, none, none, o8] ∧ Dice (m + 1000) d') ⟨_, _, _, _, _, _, rfl, rfl, h⟩ ?_ ?_ ?_
  · rintro t d e hj ⟨d0, o2, o3, o4, o5, o8, rfl, p4, dc⟩
    have ht : t < 30 := by
      have := (List.getElem?_eq_some_iff.mp hj).1
      simpa [rgD_len] using this
    obtain ⟨rfl, _⟩ := rg_get hj
    clear hj od h
    walk_at "ev _law_drawn_zone"
    refine for_wp (fun i e => ∃ d' rs o4 o5, e = [some d', some (.int n), some (.int t), some (tupsD rs), o4, o5, none, none, o8] ∧ plO o4 = true ∧ rs.length = i ∧ (∀ r ∈ rs, r.length = n) ∧ Dice (m + 32 * t + 8 * i) d') (fun _ _ => False) ⟨_, [], _, _, rfl, p4, rfl, by simp, dc⟩ ?_ ?_ (fun _ _ z => z.elim)
    · rintro i d e hj ⟨d0, rs, o4, o5, rfl, p4, hrs, hrl, dc⟩
      obtain ⟨rfl, hi⟩ := rg_get hj
      have hi : i < n := by simpa using hi
      clear hj p4
      walk_at "ev _law_drawn_zone"
      refine lc_ix (fun j out e => ∃ d' r o6, out = r.map oD ∧ r.length = j ∧ e = [some d', some (.int n), some (.int t), some (tupsD rs), some (.int i), o5, o6, none, o8] ∧ Dice (m + 32 * t + 8 * i + 2 * j) d') (by rw [rgD_len, Int.toNat_natCast]; have : (1000 : Nat) < sizeLine := (by decide); omega) ⟨_, [], _, rfl, rfl, rfl, dc⟩ ?_ ?_
      · rintro j d acc e hj ⟨d0, r, o6, rfl, hr, rfl, dc⟩
        obtain ⟨rfl, hjn⟩ := rg_get hj
        have hjn : j < n := by simpa using hjn
        obtain ⟨w, d1, h1, w0, w5, dc1⟩ := roll_spec (k + 2) dc (by omega) 2 (by decide) (by decide)
        obtain ⟨x, d2, h2, x0, x1, dc2⟩ := roll_spec (k + 2) dc1 (by omega) 14 (by decide) (by decide)
        have od := dc.own
        have od1 := dc1.own
        have od2 := dc2.own
        have fin1 := dc1.mono (show m + 32 * t + 8 * i + 2 * j + 1 ≤ m + 32 * t + 8 * i + 2 * (j + 1) by omega)
        have fin2 := dc2.mono (show m + 32 * t + 8 * i + 2 * j + 1 + 1 ≤ m + 32 * t + 8 * i + 2 * (j + 1) by omega)
        have hal : ∀ v : Option Int, (r ++ [v]).length = j + 1 := fun v => by simp [hr]
        have hap : ∀ v : Option Int, r.map oD ++ [oD v] = (r ++ [v]).map oD := fun v => by simp
        clear dc dc1 dc2 hj hr w0 w5 x0 x1 hm hrs hrl rg
        by_cases e1 : w = 0
        · subst e1
          walk_at "ev _law_drawn_zone"
          exact ⟨_, r ++ [none], _, hap none, hal _, rfl, fin1⟩
        · walk_at "ev _law_drawn_zone"
          exact ⟨_, r ++ [some _], _, hap (some _), hal _, rfl, fin2⟩
      · rintro out e ⟨d0, r, o6, rfl, hr, rfl, dc⟩
        rw [rgD_len, Int.toNat_natCast] at hr dc
        have hz := frzL_oD r
        have od := dc.own
        have hl : (rs.map fun r => D.tup (r.map oD)).length < sizeLine := by
          rw [List.length_map]
          have : (1000 : Nat) < sizeLine := by decide
          omega
        clear hi
        unfold tupsD
        walk_at "ev _law_drawn_zone"
        refine lc_map (fun e => ∃ o6 o7, e = [some d0, some (.int n), some (.int t), some (.lst .own (rs.map fun r => .tup (r.map oD))), some (.int i), some (.lst .fro (r.map oD)), o6, o7, o8]) (zD i) (by rw [enD_len, List.length_map]; have : (1000 : Nat) < sizeLine := (by decide); omega) ⟨_, _, rfl⟩ ?_ ?_
        · rintro d hd e ⟨o6, o7, rfl⟩
          obtain ⟨c, y, hy, rfl⟩ := enD_mem hd
          obtain ⟨x, rfl⟩ := map_oD_mem hy
          have ho := ow_oD (x := x)
          have hf := frz_oD (x := x)
          clear hd hy hl
          by_cases hc : (i : Int) = (c : Int)
          · walk_at "ev _law_drawn_zone"
            simp [zD, hc]
          · walk_at "ev _law_drawn_zone"
            simp [zD, hc]
        · rintro e ⟨o6, o7, rfl⟩
          rw [zD_ok]
          have hp := plain_oD (zr i 0 r)
          have hap : ((rs ++ [zr i 0 r]).map fun r => D.tup (r.map oD)) = (rs.map fun r => D.tup (r.map oD)) ++ [.tup ((zr i 0 r).map oD)] := by simp
          have hrl2 : ∀ x ∈ rs ++ [zr i 0 r], x.length = n := fun x hx => by
            rcases List.mem_append.mp hx with q | q
            · exact hrl x q
            · rw [List.mem_singleton.mp q, zr_len]; exact hr
          have hrs2 : (rs ++ [zr i 0 r]).length = i + 1 := by simp [hrs]
          have fin := dc.mono (show m + 32 * t + 8 * i + 2 * n ≤ m + 32 * t + 8 * (i + 1) by omega)
          clear hrs hrl hr dc hm rg
          walk_at "ev _law_drawn_zone"
          exact ⟨_, rs ++ [zr i 0 r], _, _, by rw [hap], rfl, hrs2, hrl2, fin⟩
    · rintro e ⟨d0, rs, o4, o5, rfl, p4, hrs, hrl, dc⟩
      rw [rgD_len, Int.toNat_natCast] at hrs dc
      have hp := plain_tup rs
      have s : Sq n rs := ⟨hrs, hrl⟩
      have od := dc.own
      have hc : lev cM cT (k + 4) "_law_closed" [.tup (rs.map fun r => .tup (r.map oD))] = .ok (closeR n (zeroM rs n), [none]) := law_closed_tab k n rs s (by omega) (dg_zero s)
      have so := out_inv (S := Sq n) sq_step (sq_zero s n (Nat.le_refl n)) n (Nat.le_refl n)
      have fin1 := dc.mono (show m + 32 * t + 8 * n ≤ m + 32 * (t + 1) by omega)
      have fin2 := dc.mono (show m + 32 * t + 8 * n ≤ m + 1000 by omega)
      unfold closeR at hc
      unfold tupsD
      clear dc hrs hrl hm rg
      by_cases hneg : negD n (out n (zeroM rs n) n) = true
      · rw [if_pos hneg] at hc
        walk_at "ev _law_drawn_zone"
        exact ⟨_, _, _, _, _, _, rfl, p4, fin1⟩
      · rw [if_neg hneg] at hc
        generalize out n (zeroM rs n) n = N at *
        have ho := ow_tab (rs := N)
        have hf := frz_tab (rs := N)
        have hnn : isNon (tabD N) = false := rfl
        walk_at "ev _law_drawn_zone"
        exact ⟨N, _, _, _, _, _, _, rfl, so, rfl, fin2⟩
  · rintro e ⟨d0, o2, o3, o4, o5, o8, rfl, p4, dc⟩
    have hd : (rgD 0 (Int.toNat 30)).length = 30 := by rw [rgD_len]; rfl
    rw [hd] at dc
    have od0 := dc.own
    have fin := dc.mono (show m + 32 * 30 ≤ m + 1000 by omega)
    have hc := law_closed_tab k n (noneM n) (sq_none n) (by omega) (dg_zero (sq_none n))
    rw [close_none n n1 n4] at hc
    have so := out_inv (S := Sq n) sq_step (sq_zero (sq_none n) n (Nat.le_refl n)) n (Nat.le_refl n)
    have hm := mul_none n n4
    have hp := plain_oD (List.replicate n none)
    have hl1 : lenOk 1 = true := by unfold lenOk; exact decide_eq_true (by decide)
    generalize out n (zeroM (noneM n) n) n = N at *
    clear dc
    walk_at "ev _law_drawn_zone"
    refine lc_map (fun e => ∃ o4, e = [some d0, some (.int n), o2, o3, o4, o5, none, none, o8]) (fun _ => .tup ((List.replicate n none).map oD)) (by rw [rgD_len, Int.toNat_natCast]; have : (1000 : Nat) < sizeLine := (by decide); omega) ⟨_, rfl⟩ ?_ ?_
    · rintro d hd e ⟨o4, rfl⟩
      obtain ⟨c, hc, rfl⟩ := rgD_mem hd
      clear hd
      walk_at "ev _law_drawn_zone"
      simp
    · rintro e ⟨o4, rfl⟩
      have hr : (rgD 0 (n : Int).toNat).map (fun _ => D.tup ((List.replicate n none).map oD)) = (noneM n).map fun r => .tup (r.map oD) := by
        have e1 : (noneM n).map (fun r => D.tup (r.map oD)) = List.replicate n (.tup ((List.replicate n none).map oD)) := by unfold noneM; rw [List.map_replicate]
        rw [e1]
        exact List.eq_replicate_iff.mpr ⟨by rw [List.length_map, rgD_len, Int.toNat_natCast], fun b hb => by obtain ⟨_, _, e⟩ := List.mem_map.mp hb; exact e.symm⟩
      rw [hr]
      have hp2 := plain_tup (noneM n)
      simp only [tabD] at hc ⊢
      walk_at "ev _law_drawn_zone"
      exact ⟨N, d0, rfl, so, fin⟩
  · rintro x e ⟨rs, d', o2, o3, o4, o5, o8, rfl, s, rfl, dc⟩
    have od0 := dc.own
    walk_at "ev _law_drawn_zone"
    exact ⟨rs, d', rfl, s, dc⟩
end K19

set_option Elab.async false
set_option linter.all false
set_option maxRecDepth 100000
set_option maxHeartbeats 1000000
namespace K19
open PySem L2 Ev
local macro_rules | `(tactic| walk_at "go _law_right") => `(tactic| (rw [lev_eq (f := d__law_right) (by rfl) rfl, en__law_right]; have hb : defBody d__law_right.st = defBody d__law_right.st := rfl; (conv at hb => (rhs; whnf)); rw [hb]; clear hb))
local macro_rules | `(tactic| walk_at "ev _law_right") => `(tactic| simp (dsimp := false) (decide := true) only [↓bin_eq, orT_s, orT_n, ↓to_bnd, wp_ok, bnd_assoc, bnd_ok, bnd_st, ↓to_lcF, ↓to_forF, ↓to_whileF, b_addT, b_addLo, b_addLf, pl_nil, pl_cons, plO_s, plO_n, c_hanc, evSs_seq, evSs_end, seq_nx, seq_rt, seq_bk, seq_ct, seq_bnd, bnd_seq, seq_for, seq_while, fin_nx, fin_rt, asgNs_nil, asgNs_cons, asgEa_nil, asgEa_nam, asgEa_sub, isOL_own, pp_0, List.cons_append, take_hn, ow_dfro, ow_dext, takeF_v, takeF_h, free_nil, free_cons, wipe_nil, wipe_cons, back_eq, patch_nil, patch_cons, li_3, li_4, li_5, li_6, li_7, frz_fro, frz_ext, frz_own, frz_non, frz_bl, frz_str, evS, ownOf, List.filterMap_cons, List.filterMap_nil, List.map_cons, List.map_nil, Option.map_some, Option.map_none, asgT, asgI, pp_1, List.nil_append, lenOk2, frzL_nil, frzL_cons, frz_tup, Int.mul_one, plainIx, intE, itE_t, itE_l, item_0, item_1, item_2, li_0, li_1, li_2, asgXs, takes_nil, takes_cons, swap, namesOn, headLine, Expr.pos, ed2, ed3, foldedForSure, constantsAlone, List.all_cons, List.all_nil, List.length_cons, List.length_nil, Nat.reduceAdd, Nat.reduceBEq, Nat.reduceBNe, Bool.or_true, Bool.or_false, Bool.true_or, Bool.false_or, beq_self_eq_true, bne_self_eq_false, List.set_cons_zero, List.set_cons_succ, evT, evTs, evE, evO, evA, evB, evP, evF, evI, evW, ofO_s, c_val, c_han, g_0, g_s, sole_v, sole_h, take_v, ow_non, ow_bl, ow_int, ow_str, ow_tup, ow_own, ow_fro, ow_ext, ow_ty, ow_fn, ow_dic, b_add, b_sub, b_mod, b_div, b_mul, n_non, n_bl, n_int, n_str, n_tup, n_lst, n_dic, m_is, m_isnot, m_lt, m_le, m_gt, m_ge, m_eq, m_ne, q_int, q_non1, q_non2, q_bl, t_bl, t_int, t_non, t_tup, t_lst, s_and, s_or, plainOp, gOf_N, gOf_bor, sub_N, name_eq, asgN_eq, call_eq, lend_nil, lend_val, lend_han, gb_nil, gb_none, gb_some, noStar, Bool.false_eq_true, if_false, if_true, Bool.not_true, Bool.not_false, outsOf, decide_true, decide_false, Bool.true_and, Bool.and_true, Bool.false_and, Bool.and_false, reduceCtorEq, Option.map_some, frz, frz_int, contents_nil, contents_cons, bl_int, bl_bl, bl_lenT, bl_lenL, bl_abs, bl_max, bl_min, bl_listT, bl_listL, bl_tupT, bl_tupL, bl_any, bl_all, is_int, is_ty, is_non_int, is_non_bool, is_non_tuple, is_non_list, is_non_str, is_non_dict, is_bl_int, is_bl_bool, is_bl_tuple, is_bl_list, is_bl_str, is_bl_dict, is_int_bool, is_int_tuple, is_int_list, is_int_str, is_int_dict, is_str_int, is_str_bool, is_str_tuple, is_str_list, is_str_str, is_str_dict, is_tup_int, is_tup_bool, is_tup_tuple, is_tup_list, is_tup_str, is_tup_dict, is_lst_int, is_lst_bool, is_lst_tuple, is_lst_list, is_lst_str, is_lst_dict, is_dic_int, is_dic_bool, is_dic_tuple, is_dic_list, is_dic_str, is_dic_dict, l__law_right_near, v__law_right_near, o__law_right_near, l__law_right_value, v__law_right_value, o__law_right_value, l__law_right_table, v__law_right_table, o__law_right_table, l__law_right_zone, v__law_right_zone, o__law_right_zone, l__law_right_some, v__law_right_some, o__law_right_some, l__law_right_one, v__law_right_one, o__law_right_one, l__law_right_other, v__law_right_other, o__law_right_other, l__law_right_third, v__law_right_third, o__law_right_third, l__law_right_due, v__law_right_due, o__law_right_due, l__law_right__law_drawn_table, w__law_right__law_drawn_table, l__law_right_dice, v__law_right_dice, o__law_right_dice, l__law_right__law_drawn_zone, w__law_right__law_drawn_zone, l__law_right_values, v__law_right_values, o__law_right_values, l__law_right_bound, v__law_right_bound, o__law_right_bound, l__law_right__law_drawn_bound, w__law_right__law_drawn_bound, l__law_right__law_holds_sum, w__law_right__law_holds_sum, l__law_right_add_bounds_tables, w__law_right_add_bounds_tables, l__law_right_at, v__law_right_at, o__law_right_at, l__law_right_to, v__law_right_to, o__law_right_to, l__law_right_row, v__law_right_row, o__law_right_row, l__law_right__law_is_whole, w__law_right__law_is_whole, l__law_right_repr, w__law_right_repr, l__law_right__law_roll, w__law_right__law_roll, l__law_right_list, w__law_right_list, l__law_right_is_bound_tables, w__law_right_is_bound_tables, l__law_right_len, w__law_right_len, l__law_right_is_table, w__law_right_is_table, l__law_right_is_zone, w__law_right_is_zone, l__law_right__law_is_table, w__law_right__law_is_table, l__law_right__law_is_zone, w__law_right__law_is_zone, d__law_right_one, d__law_right_other, d__law_right_third, x__law_right_one_other, x__law_right_one_third, x__law_right_other_third, d__law_right_at, d__law_right_to, x__law_right_at_to, k__law_drawn_bound, g__law_drawn_bound, r__law_drawn_bound, e__law_drawn_bound, k__law_drawn_table, g__law_drawn_table, r__law_drawn_table, e__law_drawn_table, k__law_drawn_zone, g__law_drawn_zone, r__law_drawn_zone, e__law_drawn_zone, k__law_holds_sum, g__law_holds_sum, r__law_holds_sum, e__law_holds_sum, k__law_is_table, g__law_is_table, r__law_is_table, e__law_is_table, k__law_is_whole, g__law_is_whole, r__law_is_whole, e__law_is_whole, k__law_is_zone, g__law_is_zone, r__law_is_zone, e__law_is_zone, k__law_roll, g__law_roll, r__law_roll, e__law_roll, k_add_bounds_tables, g_add_bounds_tables, r_add_bounds_tables, e_add_bounds_tables, k_is_bound_tables, g_is_bound_tables, r_is_bound_tables, e_is_bound_tables, k_is_table, g_is_table, r_is_table, e_is_table, k_is_zone, g_is_zone, r_is_zone, e_is_zone, k_len, g_len, f_len, b_len, r_len, e_len, k_list, g_list, f_list, b_list, y_list, r_list, e_list, k_repr, g_repr, f_repr, b_repr, r_repr, e_repr, *])
theorem cut_mem {xs : List D} {l h : Option Int} {x : D} (hx : x ∈ cut xs l h) : x ∈ xs := List.mem_of_mem_drop (List.mem_of_mem_take hx)
theorem cut_len (xs : List D) (l h : Option Int) : (cut xs l h).length ≤ xs.length := by
  unfold cut
  rw [List.length_take, List.length_drop]
  omega
/-- a row that may stand in a table, or near one -/
def RowN (m : Nat) (d : D) : Prop := ∃ xs, d = .tup xs ∧ xs.length ≤ m ∧ ∀ x ∈ xs, nc 60 x ∧ owned x = false
def RowV (d : D) : Prop := RowN 20 d
theorem RowN.v {d : D} (h : RowN 6 d) : RowV d := by
  obtain ⟨xs, e, l, hx⟩ := h
  exact ⟨xs, e, by omega, hx⟩
theorem val_rows {ds : List D} (hl : ds.length ≤ 20) (h : ∀ r ∈ ds, RowV r) : Val (.tup ds) where
  own := rfl
  nc := nc_of_tup fun r hr => by
    obtain ⟨xs, rfl, _, hx⟩ := h r hr
    exact nc_of_tup fun x hx' => (hx x hx').1
  len := fun rows e => by
    cases e
    refine ⟨by omega, fun r hr xs e => ?_⟩
    obtain ⟨ys, e2, l, hx⟩ := h r hr
    rw [e] at e2
    cases e2
    exact ⟨by omega, fun x hx' => (hx x hx').2⟩
theorem val_lst {ds : List D} (h : ∀ r ∈ ds, RowV r) : Val (.lst .fro ds) where
  own := rfl
  nc := nc_of_lst fun r hr => by
    obtain ⟨xs, rfl, _, hx⟩ := h r hr
    exact nc_of_tup fun x hx' => (hx x hx').1
  len := fun rows e => by cases e
theorem val_row {d : D} (h : RowV d) (hn : ∀ xs, d = .tup xs → ∀ x ∈ xs, ∀ ys, x ≠ .tup ys) : Val d := by
  obtain ⟨xs, rfl, l, hx⟩ := h
  exact ⟨rfl, nc_mono (nc_of_tup fun x hx' => (hx x hx').1) (by omega), fun rows e => by
    cases e
    exact ⟨by omega, fun r hr ys e => absurd e (hn xs rfl r hr ys)⟩⟩
theorem nc_oD (x : Option Int) : nc 60 (oD x) := by
  cases x with
  | none => exact nc_mono nc_non (by omega)
  | some v => exact nc_mono nc_int (by omega)
theorem rowV_oD {r : List (Option Int)} (h : r.length ≤ 6) : RowN 6 (.tup (r.map oD)) := ⟨_, rfl, by rw [List.length_map]; omega, fun x hx => by
  obtain ⟨y, rfl⟩ := map_oD_mem hx
  exact ⟨nc_oD y, ow_oD⟩⟩
theorem rowV_tab {n : Nat} {rs : Mat} (s : Sq n rs) (h : n ≤ 6) : ∀ r ∈ rs.map fun r => D.tup (r.map oD), RowN 6 r := fun r hr => by
  obtain ⟨r', hr', rfl⟩ := List.mem_map.mp hr
  exact rowV_oD (by rw [s.2 r' hr']; exact h)
def rb (b : Bool) : D := .str (PyData.bool b).shown
def rb2 (a b : Bool) : D := .str (PyData.list [.bool a, .bool b]).shown
theorem repr_b (b : Bool) : callB .repr [.bl b] = some (rb b) := by cases b <;> kernel_rfl
theorem repr_b2 (a b : Bool) : callB .repr [.lst .own [.bl a, .bl b]] = some (rb2 a b) := by cases a <;> cases b <;> kernel_rfl
theorem eq_rb (b : Bool) : eqD (rb b) (rb b) = some true := by cases b <;> kernel_rfl
theorem eq_rb2 (a b : Bool) : eqD (rb2 a b) (rb2 a b) = some true := by cases a <;> cases b <;> kernel_rfl
theorem lenOk_le {n : Nat} (h : n ≤ 1000) : lenOk n = true := by
  unfold lenOk
  have : (1000 : Nat) < sizeLine := by decide
  exact decide_eq_true (by omega)
theorem plain_rows : ∀ {R : List D}, (∀ r ∈ R, RowV r) → plainL R = true
  | [], _ => rfl
  | r :: R, h => by
    obtain ⟨xs, e, _⟩ := h r List.mem_cons_self
    subst e
    simp only [plainL, ow_tup, plain_rows fun x hx => h x (List.mem_cons_of_mem _ hx)]
    rfl
theorem frzL_rows : ∀ {R : List D}, (∀ r ∈ R, RowV r) → frzL R = R
  | [], _ => rfl
  | r :: R, h => by
    obtain ⟨xs, e, _⟩ := h r List.mem_cons_self
    subst e
    simp only [frzL, frzL_rows fun x hx => h x (List.mem_cons_of_mem _ hx), frz_tup]
theorem frzL_bare : ∀ {vs : List D}, (∀ v ∈ vs, owned v = false) → frzL vs = vs
  | [], _ => rfl
  | v :: vs, h => by
    simp only [frzL, frz_bare (h v List.mem_cons_self), frzL_bare fun x hx => h x (List.mem_cons_of_mem _ hx)]
theorem right_def (k : Nat) {m : Nat} {d : D} (h : Dice m d) (hm : m + 2000 < 2 ^ 59) : ∃ d', lev cM cT (k + 8) "_law_right" [d] = .ok (.bl true, [some d']) ∧ Dice (m + 2000) d' := by
  suffices hw : Wp (lev cM cT (k + 8) "_law_right" [d]) (fun y => ∃ d', y = (.bl true, [some d']) ∧ Dice (m + 2000) d') by
    obtain ⟨y, e, d', rfl, q⟩ := hw
    exact ⟨d', e, q⟩
  have hb : borOf [d] = [0] := by rw [bor_1, h.own]; rfl
  obtain ⟨x, d1, h1, bx, dc1⟩ := drawn_bound (k + 3) h (by omega)
  obtain ⟨y, d2, h2, by_, dc2⟩ := drawn_bound (k + 3) dc1 (by omega)
  obtain ⟨z, d3, h3, bz, dc3⟩ := drawn_bound (k + 3) dc2 (by omega)
  obtain ⟨d4, h4, dc4⟩ := holds_sum_def (k + 2) dc3 (by omega) x y bx by_
  have od := h.own
  have od1 := dc1.own
  have od2 := dc2.own
  have od3 := dc3.own
  have od4 := dc4.own
  have a1 : ∀ x y, lev cM cT (k + 7) "add_bounds_tables" [oD x, oD y] = .ok (oD (addO x y), [none, none]) := E_add_bounds_tables (k + 4)
  have a2 := addO_assoc x y z
  have a3 := eq_oD (addO x (addO y z))
  have ow := fun x => ow_oD (x := x)
  have fz := fun x => frz_oD (x := x)
  have c1 : ([0] : List Nat).contains 1 = false := by decide
  have c2 : ([0] : List Nat).contains 2 = false := by decide
  have c3 : ([0] : List Nat).contains 3 = false := by decide
  have c4 : ([0] : List Nat).contains 4 = false := by decide
  have c5 : ([0] : List Nat).contains 5 = false := by decide
  have c6 : ([0] : List Nat).contains 6 = false := by decide
  have c7 : ([0] : List Nat).contains 7 = false := by decide
  have c8 : ([0] : List Nat).contains 8 = false := by decide
  have c9 : ([0] : List Nat).contains 9 = false := by decide
  have c10 : ([0] : List Nat).contains 10 = false := by decide
  have c11 : ([0] : List Nat).contains 11 = false := by decide
  have c12 : ([0] : List Nat).contains 12 = false := by decide
  have c13 : ([0] : List Nat).contains 13 = false := by decide
  have c14 : ([0] : List Nat).contains 14 = false := by decide
  have l1 : lenOk 1 = true := by unfold lenOk; exact decide_eq_true (by decide)
  have l7 : lenOk 7 = true := by unfold lenOk; exact decide_eq_true (by decide)
  clear h dc1 dc2 dc3 bx by_ bz
  walk_at "go _law_right"
  simp only [hb]
  clear hb
  walk_at "ev _law_right"
  have near : ∀ v ∈ [oD x, D.tup [oD x], D.lst Mk.fro [oD x], D.bl true, D.str "1", D.tup [D.int 1, D.int 2], D.dic Mk.fro [] []], owned v = false ∧ (tyOf v).isSome = true := by
    intro v hv
    simp only [List.mem_cons, List.not_mem_nil, or_false] at hv
    rcases hv with e | e | e | e | e | e | e <;> subst e
    · exact ⟨ow_oD, by cases x <;> rfl⟩
    all_goals exact ⟨rfl, rfl⟩
  generalize [oD x, D.tup [oD x], D.lst Mk.fro [oD x], D.bl true, D.str "1", D.tup [D.int 1, D.int 2], D.dic Mk.fro [] []] = ns at near
  refine for_wp (fun j e => ∃ o5 o6, e = [some d4, some (oD x), some (oD y), some (oD z), some (.lst .fro ns), o5, o6, none, none, none, none, none, none, none, none]) (fun _ _ => False) ⟨_, _, rfl⟩ ?_ ?_ (fun _ _ z => z.elim)
  · rintro j v e hj ⟨o5, o6, rfl⟩
    obtain ⟨w1, w2⟩ := near v (List.mem_of_getElem? hj)
    have e1 := E_is_bound_tables (k + 4) v w2
    have e2 := E_law_is_whole (k + 6) v w2
    have f1 := frz_bare w1
    unfold back1 at e1 e2
    simp only [w1, Bool.false_eq_true, if_false] at e1 e2
    have r1 := repr_b
    have r2 := eq_rb
    have hob : ∀ b, owned (rb b) = false := fun b => rfl
    clear h1 h2 h3 h4 near hj a1 a2 a3
    by_cases hn : isNon v = true
    · have hB : isB v = true := by cases v <;> first | rfl | cases hn
      rw [hB] at e1
      walk_at "ev _law_right"
      exact ⟨_, _, rfl⟩
    · have hn : isNon v = false := by simpa using hn
      have hB : isB v = isW v := by cases v <;> first | rfl | cases hn
      rw [hB] at e1
      walk_at "ev _law_right"
      exact ⟨_, _, rfl⟩
  · rintro e ⟨o5, o6, rfl⟩
    obtain ⟨rT, nT, d5, h5, sT, t1, t5, dc5⟩ := drawn_table (k + 4) dc4 (by omega)
    obtain ⟨q, d6, h6, q0, q4, dc6⟩ := roll_spec (k + 5) dc5 (by omega) 4 (by decide) (by decide)
    obtain ⟨nZ, hnZ⟩ : ∃ n : Nat, 1 + q = (n : Int) := ⟨(1 + q).toNat, by omega⟩
    obtain ⟨rZ, d7, h7, sZ, dc7⟩ := drawn_zone (k + 2) (n := nZ) dc6 (by omega) (by omega) (by omega)
    have od5 := dc5.own
    have od6 := dc6.own
    have od7 := dc7.own
    have ot := fun rs => ow_tab (rs := rs)
    have ft := fun rs => frz_tab (rs := rs)
    clear h1 h2 h3 h4 a1 a2 a3 near
    walk_at "ev _law_right"
    have both : ∀ v ∈ [tabD rT, tabD rZ], ∃ n rs, v = tabD rs ∧ Sq n rs ∧ 1 ≤ n ∧ n ≤ 5 := by
      intro v hv
      simp only [List.mem_cons, List.not_mem_nil, or_false] at hv
      rcases hv with e | e <;> subst e
      · exact ⟨nT, rT, rfl, sT, t1, t5⟩
      · exact ⟨nZ, rZ, rfl, sZ, by omega, by omega⟩
    generalize hbo : [tabD rT, tabD rZ] = bo at both
    have hbl : bo.length = 2 := by rw [← hbo]; rfl
    clear hbo dc4 dc5 dc6 h5 h6 h7 q0 q4 hnZ sT sZ t1 t5
    refine for_wp (fun j e => ∃ d' o5 o6 o9 o10 o11 o12 o13 o14, e = [some d', some (oD x), some (oD y), some (oD z), some (.lst .fro ns), o5, o6, some (tabD rT), some (tabD rZ), o9, o10, o11, o12, o13, o14] ∧ Dice (m + 2 + 2 + 2 + 24 + 100 + 1 + 1000 + 2 * j) d') (fun _ _ => False) ⟨_, _, _, _, _, _, _, _, _, rfl, dc7⟩ ?_ ?_ (fun _ _ z => z.elim)
    · rintro j v e hj ⟨d0, o5, o6, o9, o10, o11, o12, o13, o14, rfl, dc⟩
      obtain ⟨n, rs, rfl, s, n1, n5⟩ := both v (List.mem_of_getElem? hj)
      have hj2 : j < 2 := by rw [← hbl]; exact (List.getElem?_eq_some_iff.mp hj).1
      clear both hj od od1 od2 od3 od4 od5 od6 od7 dc7 d7 hbl
      have hR6 := rowV_tab s (by omega)
      have hRl : (rs.map fun r => D.tup (r.map oD)).length = n := by rw [List.length_map, s.1]
      unfold tabD
      clear s
      generalize hRR : (rs.map fun r => D.tup (r.map oD)) = R at hR6 hRl
      have hR : ∀ r ∈ R, RowV r := fun r hr => (hR6 r hr).v
      have hne : R.isEmpty = false := by cases R with | nil => simp at hRl; omega | cons _ _ => rfl
      have hpl : plainL R = true := plain_rows hR
      obtain ⟨r0, hr0⟩ : ∃ r0, R[0]? = some r0 := ⟨R[0]'(by omega), List.getElem?_eq_getElem (by omega)⟩
      have i0 : item R 0 = some 0 := by
        have := item_nat (xs := R) (j := 0) (by omega)
        simpa using this
      have vr0 := hR r0 (List.mem_of_getElem? hr0)
      have or0 : owned r0 = false := by obtain ⟨_, e, _⟩ := vr0; rw [e]; rfl
      have fr0 := frz_bare or0
      have lk1 : lenOk (R.length + (cut R none (some 1)).length) = true := lenOk_le (by have := cut_len R none (some 1); omega)
      have len_pos : (0 : Int) < (R.length : Int) := by omega
      obtain ⟨a, d1, h1, a0, a1, dc1⟩ := roll_spec (k + 5) dc (by omega) (R.length : Int) len_pos (by omega)
      obtain ⟨b, d2, h2, b0, b1, dc2⟩ := roll_spec (k + 5) dc1 (by omega) (R.length : Int) len_pos (by omega)
      have od0 := dc.own
      have od1 := dc1.own
      have od2 := dc2.own
      have fin := dc2.mono (show m + 2 + 2 + 2 + 24 + 100 + 1 + 1000 + 2 * j + 1 + 1 ≤ m + 2 + 2 + 2 + 24 + 100 + 1 + 1000 + 2 * (j + 1) by omega)
      have l10 : lenOk 10 = true := lenOk_le (by omega)
      have l9 : lenOk 9 = true := lenOk_le (by omega)
      have l2 : lenOk 2 = true := lenOk_le (by omega)
      have l0 : lenOk 0 = true := lenOk_le (by omega)
      have q1 := pow60
      have q2 := pow4
      have q3 := mul64
      have hz1 := frzL_rows hR
      replace hRl : R.length ≤ 5 := by omega
      clear dc dc1 dc2 hm len_pos vr0
      walk_at "ev _law_right"
      have hv0 : ∀ v ∈ [D.tup R, D.lst Mk.fro R, D.tup (cut R none (some (-1))), D.tup (R ++ cut R none (some 1)), r0, D.non, D.tup [], D.tup R.reverse, D.tup [D.tup [D.bl true]], D.tup [D.tup [D.int 0, D.int 0], D.tup [D.int 0]]], Val v := by
        intro v hv
        simp only [List.mem_cons, List.not_mem_nil, or_false] at hv
        rcases hv with e | e | e | e | e | e | e | e | e | e <;> subst e
        · exact val_rows (by omega) hR
        · exact val_lst hR
        · exact val_rows (by have := cut_len R none (some (-1)); omega) fun r hr => hR r (cut_mem hr)
        · exact val_rows (by have := cut_len R none (some 1); rw [List.length_append]; omega) fun r hr => by
            rcases List.mem_append.mp hr with h | h
            · exact hR r h
            · exact hR r (cut_mem h)
        · refine val_row (hR _ (List.mem_of_getElem? hr0)) fun xs e x hx ys e2 => ?_
          have hm := List.mem_of_getElem? hr0
          rw [← hRR] at hm
          obtain ⟨r', _, e3⟩ := List.mem_map.mp hm
          rw [e] at e3
          cases e3
          obtain ⟨y, e4⟩ := map_oD_mem hx
          rw [e4] at e2
          cases y <;> cases e2
        · exact ⟨rfl, nc_mono nc_non (by omega), fun rows e => by cases e⟩
        · exact val_rows (by simp) (by simp)
        · exact val_rows (by rw [List.length_reverse]; omega) fun r hr => hR r (List.mem_reverse.mp hr)
        · exact val_rows (by simp) fun r hr => ⟨[D.bl true], by simpa using hr, by simp, fun x hx => by
            rw [List.mem_singleton.mp hx]; exact ⟨nc_mono nc_bl (by omega), rfl⟩⟩
        · refine val_rows (by simp) fun r hr => ?_
          simp only [List.mem_cons, List.not_mem_nil, or_false] at hr
          rcases hr with e | e <;> subst e
          · exact ⟨_, rfl, by simp, fun x hx => by
              simp only [List.mem_cons, List.not_mem_nil, or_false, or_self] at hx
              rw [hx]; exact ⟨nc_mono nc_int (by omega), rfl⟩⟩
          · exact ⟨_, rfl, by simp, fun x hx => by
              simp only [List.mem_cons, List.not_mem_nil, or_false, or_self] at hx
              rw [hx]; exact ⟨nc_mono nc_int (by omega), rfl⟩⟩
      have hl0 : [D.tup R, D.lst Mk.fro R, D.tup (cut R none (some (-1))), D.tup (R ++ cut R none (some 1)), r0, D.non, D.tup [], D.tup R.reverse, D.tup [D.tup [D.bl true]], D.tup [D.tup [D.int 0, D.int 0], D.tup [D.int 0]]].length = 10 := rfl
      generalize [D.tup R, D.lst Mk.fro R, D.tup (cut R none (some (-1))), D.tup (R ++ cut R none (some 1)), r0, D.non, D.tup [], D.tup R.reverse, D.tup [D.tup [D.bl true]], D.tup [D.tup [D.int 0, D.int 0], D.tup [D.int 0]]] = vs0 at hv0 hl0
      have hbs : ∀ x ∈ [D.non, D.int 0, D.int 1, D.int (-1), D.int 5, D.bl true, D.str "0", D.tup [D.int 0], D.int (10 ^ 60 * 10 ^ 4)], nc 60 x ∧ owned x = false := by
        intro v hv
        simp only [List.mem_cons, List.not_mem_nil, or_false] at hv
        rcases hv with e | e | e | e | e | e | e | e | e <;> subst e
        · exact ⟨nc_mono nc_non (by omega), rfl⟩
        · exact ⟨nc_mono nc_int (by omega), rfl⟩
        · exact ⟨nc_mono nc_int (by omega), rfl⟩
        · exact ⟨nc_mono nc_int (by omega), rfl⟩
        · exact ⟨nc_mono nc_int (by omega), rfl⟩
        · exact ⟨nc_mono nc_bl (by omega), rfl⟩
        · exact ⟨⟨.str "0", rfl, by kernel_rfl, by simp [PyData.depth]⟩, rfl⟩
        · exact ⟨nc_mono (nc_of_tup (n := 1) fun x hx => by rw [List.mem_singleton.mp hx]; exact nc_int) (by omega), rfl⟩
        · exact ⟨nc_mono nc_int (by omega), rfl⟩
      have hb9 : [D.non, D.int 0, D.int 1, D.int (-1), D.int 5, D.bl true, D.str "0", D.tup [D.int 0], D.int (10 ^ 60 * 10 ^ 4)].length ≤ 9 := by simp
      generalize [D.non, D.int 0, D.int 1, D.int (-1), D.int 5, D.bl true, D.str "0", D.tup [D.int 0], D.int (10 ^ 60 * 10 ^ 4)] = bs at hbs hb9
      have ia := item_int a0 a1
      have ha : a.toNat < R.length := by omega
      have ra := List.getElem?_eq_getElem ha
      obtain ⟨xs, exs, lxs, hxs⟩ := hR6 _ (List.getElem_mem ha)
      rw [exs] at ra
      clear hne hpl hr0 i0 or0 fr0 lk1 h1 h2 hz1 q1 q2 q3 l10 l9 l0 exs hRR r0 b0 b1 a0 a1 ha od0 od1
      refine for_wp (fun t e => ∃ vs o13 o14, e = [some d2, some (oD x), some (oD y), some (oD z), some (.lst .fro ns), o5, o6, some (.tup (rT.map fun r => .tup (r.map oD))), some (.tup (rZ.map fun r => .tup (r.map oD))), some (.tup R), some (.lst .own vs), some (.int a), some (.int b), o13, o14] ∧ (∀ v ∈ vs, Val v) ∧ vs.length = 10 + t) (fun _ _ => False) ⟨vs0, _, _, rfl, hv0, hl0⟩ ?_ ?_ (fun _ _ z => z.elim)
      · rintro t bd e hj ⟨vs, o13, o14, rfl, hv, hvl⟩
        obtain ⟨hb1, hb2⟩ := hbs bd (List.mem_of_getElem? hj)
        have fb := frz_bare hb2
        have k1 := cut_len xs none (some b)
        have k2 := cut_len xs (some (b + 1)) none
        have k3 := cut_len R none (some a)
        have k4 := cut_len R (some (a + 1)) none
        have t9 : t < bs.length := (List.getElem?_eq_some_iff.mp hj).1
        have u1 : lenOk ((cut xs none (some b)).length + 1) = true := lenOk_le (by omega)
        have u2 : lenOk ((cut xs none (some b) ++ [bd]).length + (cut xs (some (b + 1)) none).length) = true := lenOk_le (by rw [List.length_append, List.length_singleton]; omega)
        have u3 : lenOk ((cut R none (some a)).length + 1) = true := lenOk_le (by omega)
        have u4 : lenOk ((cut R none (some a) ++ [D.tup ((cut xs none (some b) ++ [bd]) ++ cut xs (some (b + 1)) none)]).length + (cut R (some (a + 1)) none).length) = true := lenOk_le (by rw [List.length_append, List.length_singleton]; omega)
        have u5 : vs.length < sizeLine := by
          have : (1000 : Nat) < sizeLine := by decide
          omega
        have vrow : RowV (D.tup ((cut xs none (some b) ++ [bd]) ++ cut xs (some (b + 1)) none)) := ⟨_, rfl, by rw [List.length_append, List.length_append, List.length_singleton]; omega, fun x hx => by
          rcases List.mem_append.mp hx with h | h
          · rcases List.mem_append.mp h with h | h
            · exact hxs x (cut_mem h)
            · rw [List.mem_singleton.mp h]; exact ⟨hb1, hb2⟩
          · exact hxs x (cut_mem h)⟩
        have vnew : Val (D.tup ((cut R none (some a) ++ [D.tup ((cut xs none (some b) ++ [bd]) ++ cut xs (some (b + 1)) none)]) ++ cut R (some (a + 1)) none)) := val_rows (by rw [List.length_append, List.length_append, List.length_singleton]; omega) fun r hr => by
          rcases List.mem_append.mp hr with h | h
          · rcases List.mem_append.mp h with h | h
            · exact hR r (cut_mem h)
            · rw [List.mem_singleton.mp h]; exact vrow
          · exact hR r (cut_mem h)
        have hv2 : ∀ v ∈ vs ++ [D.tup ((cut R none (some a) ++ [D.tup ((cut xs none (some b) ++ [bd]) ++ cut xs (some (b + 1)) none)]) ++ cut R (some (a + 1)) none)], Val v := fun v h => by
          rcases List.mem_append.mp h with h | h
          · exact hv v h
          · rw [List.mem_singleton.mp h]; exact vnew
        have hl2 : (vs ++ [D.tup ((cut R none (some a) ++ [D.tup ((cut xs none (some b) ++ [bd]) ++ cut xs (some (b + 1)) none)]) ++ cut R (some (a + 1)) none)]).length = 10 + (t + 1) := by rw [List.length_append, List.length_singleton]; omega
        clear hv hvl vnew vrow hR hR6 hxs hbs hv0 hl0 hb9 hj k1 k2 k3 k4 t9 lxs hb1
        walk_at "ev _law_right"
        exact ⟨_, _, _, rfl, hv2, hl2⟩
      · rintro e ⟨vs, o13, o14, rfl, hv, hvl⟩
        have fzv := frzL_bare fun v h => (hv v h).own
        clear hR hR6 hxs hbs hv0 hl0 ia ra lxs hRl hb9
        walk_at "ev _law_right"
        refine for_wp (fun t e => ∃ o5, e = [some d2, some (oD x), some (oD y), some (oD z), some (.lst .fro ns), o5, o6, some (.tup (rT.map fun r => .tup (r.map oD))), some (.tup (rZ.map fun r => .tup (r.map oD))), some (.tup R), some (.lst .fro vs), some (.int a), some (.int b), o13, o14]) (fun _ _ => False) ⟨_, rfl⟩ ?_ ?_ (fun _ _ z => z.elim)
        · rintro t v e hj ⟨o5, rfl⟩
          have vv := hv v (List.mem_of_getElem? hj)
          have e1 := E_is_table (k + 1) v vv.okT vv.own
          have e2 := E_is_zone k v vv
          have e3 := E_law_is_table (k + 2) v vv
          have e4 := E_law_is_zone (k + 1) v vv
          have ov := vv.own
          have fv := frz_bare ov
          have r1 := repr_b2
          have r2 := eq_rb2
          have ho : ∀ a b, owned (rb2 a b) = false := fun _ _ => rfl
          clear hv vv hj fzv hvl
          walk_at "ev _law_right"
          exact ⟨_, rfl⟩
        · rintro e ⟨o5, rfl⟩
          walk_at "ev _law_right"
          exact ⟨_, _, _, _, _, _, _, _, _, rfl, fin⟩
    · rintro e ⟨d0, o5, o6, o9, o10, o11, o12, o13, o14, rfl, dc⟩
      rw [hbl] at dc
      have od0 := dc.own
      have fin := dc.mono (show m + 2 + 2 + 2 + 24 + 100 + 1 + 1000 + 2 * 2 ≤ m + 2000 by omega)
      clear dc
      walk_at "ev _law_right"
      exact ⟨_, rfl, fin⟩
end K19

set_option Elab.async false
set_option linter.all false
set_option maxRecDepth 100000
set_option maxHeartbeats 1000000
namespace K19
open PySem L2 Ev
local macro_rules | `(tactic| walk_at "go law") => `(tactic| (rw [lev_eq (f := d_law) (by rfl) rfl, en_law]; have hb : defBody d_law.st = defBody d_law.st := rfl; (conv at hb => (rhs; whnf)); rw [hb]; clear hb))
local macro_rules | `(tactic| walk_at "ev law") => `(tactic| simp (dsimp := false) (decide := true) only [↓bin_eq, orT_s, orT_n, ↓to_bnd, wp_ok, bnd_assoc, bnd_ok, bnd_st, ↓to_lcF, ↓to_forF, ↓to_whileF, b_addT, b_addLo, b_addLf, pl_nil, pl_cons, plO_s, plO_n, c_hanc, evSs_seq, evSs_end, seq_nx, seq_rt, seq_bk, seq_ct, seq_bnd, bnd_seq, seq_for, seq_while, fin_nx, fin_rt, asgNs_nil, asgNs_cons, asgEa_nil, asgEa_nam, asgEa_sub, isOL_own, pp_0, List.cons_append, take_hn, ow_dfro, ow_dext, takeF_v, takeF_h, free_nil, free_cons, wipe_nil, wipe_cons, back_eq, patch_nil, patch_cons, li_3, li_4, li_5, li_6, li_7, frz_fro, frz_ext, frz_own, frz_non, frz_bl, frz_str, evS, ownOf, List.filterMap_cons, List.filterMap_nil, List.map_cons, List.map_nil, Option.map_some, Option.map_none, asgT, asgI, pp_1, List.nil_append, lenOk2, frzL_nil, frzL_cons, frz_tup, Int.mul_one, plainIx, intE, itE_t, itE_l, item_0, item_1, item_2, li_0, li_1, li_2, asgXs, takes_nil, takes_cons, swap, namesOn, headLine, Expr.pos, ed2, ed3, foldedForSure, constantsAlone, List.all_cons, List.all_nil, List.length_cons, List.length_nil, Nat.reduceAdd, Nat.reduceBEq, Nat.reduceBNe, Bool.or_true, Bool.or_false, Bool.true_or, Bool.false_or, beq_self_eq_true, bne_self_eq_false, List.set_cons_zero, List.set_cons_succ, evT, evTs, evE, evO, evA, evB, evP, evF, evI, evW, ofO_s, c_val, c_han, g_0, g_s, sole_v, sole_h, take_v, ow_non, ow_bl, ow_int, ow_str, ow_tup, ow_own, ow_fro, ow_ext, ow_ty, ow_fn, ow_dic, b_add, b_sub, b_mod, b_div, b_mul, n_non, n_bl, n_int, n_str, n_tup, n_lst, n_dic, m_is, m_isnot, m_lt, m_le, m_gt, m_ge, m_eq, m_ne, q_int, q_non1, q_non2, q_bl, t_bl, t_int, t_non, t_tup, t_lst, s_and, s_or, plainOp, gOf_N, gOf_bor, sub_N, name_eq, asgN_eq, call_eq, lend_nil, lend_val, lend_han, gb_nil, gb_none, gb_some, noStar, Bool.false_eq_true, if_false, if_true, Bool.not_true, Bool.not_false, outsOf, decide_true, decide_false, Bool.true_and, Bool.and_true, Bool.false_and, Bool.and_false, reduceCtorEq, Option.map_some, frz, frz_int, contents_nil, contents_cons, bl_int, bl_bl, bl_lenT, bl_lenL, bl_abs, bl_max, bl_min, bl_listT, bl_listL, bl_tupT, bl_tupL, bl_any, bl_all, is_int, is_ty, is_non_int, is_non_bool, is_non_tuple, is_non_list, is_non_str, is_non_dict, is_bl_int, is_bl_bool, is_bl_tuple, is_bl_list, is_bl_str, is_bl_dict, is_int_bool, is_int_tuple, is_int_list, is_int_str, is_int_dict, is_str_int, is_str_bool, is_str_tuple, is_str_list, is_str_str, is_str_dict, is_tup_int, is_tup_bool, is_tup_tuple, is_tup_list, is_tup_str, is_tup_dict, is_lst_int, is_lst_bool, is_lst_tuple, is_lst_list, is_lst_str, is_lst_dict, is_dic_int, is_dic_bool, is_dic_tuple, is_dic_list, is_dic_str, is_dic_dict, l_law_spot, v_law_spot, o_law_spot, l_law_six, v_law_six, o_law_six, l_law_told, v_law_told, o_law_told, l_law_range, w_law_range, l_law_dice, v_law_dice, o_law_dice, l_law_turn, v_law_turn, o_law_turn, l_law_max, w_law_max, l_law__law_dice, w_law__law_dice, l_law_script, v_law_script, o_law_script, l_law_is_table, w_law_is_table, l_law_is_zone, w_law_is_zone, l_law_min, w_law_min, l_law_add_bounds_tables, w_law_add_bounds_tables, l_law_len, w_law_len, l_law__law_right, w_law__law_right, k__law_dice, g__law_dice, r__law_dice, e__law_dice, k__law_right, g__law_right, r__law_right, e__law_right, k_add_bounds_tables, g_add_bounds_tables, r_add_bounds_tables, e_add_bounds_tables, k_is_table, g_is_table, r_is_table, e_is_table, k_is_zone, g_is_zone, r_is_zone, e_is_zone, k_len, g_len, f_len, b_len, r_len, e_len, k_max, g_max, f_max, b_max, r_max, e_max, k_min, g_min, f_min, b_min, r_min, e_min, k_range, g_range, f_range, r_range, e_range, *])
def isT : R Fl → Bool
  | .ok (.rt (.bl true) _) => true
  | _ => false
theorem isT_ok {r : R Fl} (h : isT r = true) : ∃ e, r = .ok (.rt (.bl true) e) := by
  cases r with
  | ok fl => cases fl with
    | rt d e => cases d with
      | bl b => cases b with
        | true => exact ⟨e, rfl⟩
        | false => cases h
      | _ => cases h
    | _ => cases h
  | _ => cases h
theorem tail_ok (ns : List Int) (o1 o2 o3 : Option D) : isT (evSs cM (lev cM cT 29) (gOf d_law []) 60 199 ((defBody d_law.st).drop 1) [some (.lst .ext (ns.map .int)), o1, o2, o3, none, none]) = true := by kernel_rfl
theorem law_math (ns : List Int) (hn : ns.length ≤ 63) : ∃ outs, lev cM cT 30 "law" [.lst .ext (ns.map .int)] = .ok (.bl true, outs) := by
  suffices hw : Wp (lev cM cT (29 + 1) "law" [.lst .ext (ns.map .int)]) (fun y => ∃ o, y = (.bl true, o)) by
    obtain ⟨y, e, o, rfl⟩ := hw
    exact ⟨o, e⟩
  have hb : borOf [D.lst .ext (ns.map .int)] = [] := rfl
  have hlen : ((ns.map D.int).length : Int) = (ns.length : Int) := by simp
  obtain ⟨N, hN, hN4⟩ : ∃ N : Nat, (if (if (ns.length : Int) < 4 then (ns.length : Int) else 4) > 1 then (if (ns.length : Int) < 4 then (ns.length : Int) else 4) else 1) = (N : Int) ∧ N ≤ 4 := by
    by_cases h1 : (ns.length : Int) < 4
    · by_cases h2 : (ns.length : Int) > 1
      · exact ⟨ns.length, by simp only [h1, h2, if_true], by omega⟩
      · exact ⟨1, by simp only [h1, h2, if_true, if_false]; rfl, by omega⟩
    · exact ⟨4, by simp only [h1, if_false]; rfl, by omega⟩
  have rg := rgOk_nat (n := N) (by omega)
  walk_at "go law"
  simp only [hb]
  clear hb
  walk_at "ev law"
  refine for_wp (fun j e => ∃ o1 o2 o3, e = [some (.lst .ext (ns.map .int)), o1, o2, o3, none, none]) (fun _ _ => False) ⟨_, _, _, rfl⟩ ?_ ?_ (fun _ _ z => z.elim)
  · rintro j d e hj ⟨o1, o2, o3, rfl⟩
    obtain ⟨rfl, hjN⟩ := rg_get hj
    have hj4 : j < 4 := by
      have : j < N := by simpa using hjN
      omega
    obtain ⟨x, y, h1⟩ := dice_of 28 ns j (by omega)
    have dc : Dice 0 (dI x y 0) := ⟨x, y, 0, rfl, by decide⟩
    generalize dI x y 0 = d0 at h1 dc
    have od := dc.own
    have rg4 : rgOk 4 = true := by decide
    clear hj hN rg hlen
    walk_at "ev law"
    refine for_wp (fun t e => ∃ d' o3, e = [some (.lst .ext (ns.map .int)), some (.int j), some d', o3, none, none] ∧ Dice (2000 * t) d') (fun _ _ => False) ⟨_, _, rfl, dc⟩ ?_ ?_ (fun _ _ z => z.elim)
    · rintro t d e hj ⟨d1, o3, rfl, dc⟩
      obtain ⟨rfl, ht⟩ := rg_get hj
      have ht4 : t < 4 := by
        have := (List.getElem?_eq_some_iff.mp hj).1
        rw [rgD_len] at this
        have : (Int.toNat 4) = 4 := rfl
        omega
      obtain ⟨d2, h2, dc2⟩ := right_def 21 dc (by omega)
      have od1 := dc.own
      have od2 := dc2.own
      have fin := dc2.mono (show 2000 * t + 2000 ≤ 2000 * (t + 1) by omega)
      clear hj dc dc2 h1 od
      walk_at "ev law"
      exact ⟨_, _, rfl, fin⟩
    · rintro e ⟨d1, o3, rfl, dc⟩
      walk_at "ev law"
      exact ⟨_, _, _, rfl⟩
  · rintro e ⟨o1, o2, o3, rfl⟩
    clear hN rg hlen hN4 hn
    simp (dsimp := false) only [seq_nx]
    obtain ⟨e, he⟩ := isT_ok (r := evSs cM (lev cM cT 29) (gOf d_law []) 60 199 ((defBody d_law.st).drop 1) [some (.lst .ext (ns.map .int)), o1, o2, o3, none, none]) (tail_ok ns o1 o2 o3)
    exact (show Wp ((evSs cM (lev cM cT 29) (gOf d_law []) 60 199 ((defBody d_law.st).drop 1) [some (.lst .ext (ns.map .int)), o1, o2, o3, none, none]).bind (fin [D.lst .ext (ns.map D.int)])) (fun y => ∃ o, y = (.bl true, o)) from by
      rw [he]
      exact ⟨_, rfl, _, rfl⟩)
end K19

set_option Elab.async false
set_option linter.all false
set_option maxRecDepth 100000
open PySem PySem.W PyProof.Rows
set_option maxHeartbeats 0 in
theorem PySem.Challenge.cw_allclocks_k19_bounds_tables_zones_holds : PySem.Challenge.rw_allclocks_k19_bounds_tables_zones.Holds := by
  w_on; o_law; k_head; (case hw => w_witness2)
  k_fill
  refine Ev.walk_law (M := K19.cM) (T := K19.cT) (n := 63) (k := 30) rfl (by decide) rfl ⟨rfl, by decide, by decide⟩ rfl (fun w h Y => PySem.W.kIn_of Y) ?F K19.law_math
  case F =>
    intro w mg h KX G
    have h0 := Ev.dfOk_mk (f := K19.s "is_whole") KX G K19.s_is_whole (by k_is) (by k_is) (by k_is) (by k_is)
    have h1 := Ev.dfOk_mk (f := K19.s "is_bound") KX G K19.s_is_bound (by k_is) (by k_is) (by k_is) (by k_is)
    have h2 := Ev.dfOk_mk (f := K19.s "is_bound_marks") KX G K19.s_is_bound_marks (by k_is) (by k_is) (by k_is) (by k_is)
    have h3 := Ev.dfOk_mk (f := K19.s "add_bounds") KX G K19.s_add_bounds (by k_is) (by k_is) (by k_is) (by k_is)
    have h4 := Ev.dfOk_mk (f := K19.s "add_bounds_marks") KX G K19.s_add_bounds_marks (by k_is) (by k_is) (by k_is) (by k_is)
    have h5 := Ev.dfOk_mk (f := K19.s "is_tighter") KX G K19.s_is_tighter (by k_is) (by k_is) (by k_is) (by k_is)
    have h6 := Ev.dfOk_mk (f := K19.s "tight") KX G K19.s_tight (by k_is) (by k_is) (by k_is) (by k_is)
    have h7 := Ev.dfOk_mk (f := K19.s "close_table") KX G K19.s_close_table (by k_is) (by k_is) (by k_is) (by k_is)
    have h8 := Ev.dfOk_mk (f := K19.s "is_table_in") KX G K19.s_is_table_in (by k_is) (by k_is) (by k_is) (by k_is)
    have h9 := Ev.dfOk_mk (f := K19.s "is_zone_of") KX G K19.s_is_zone_of (by k_is) (by k_is) (by k_is) (by k_is)
    have h10 := Ev.dfOk_mk (f := K19.s "is_table_value") KX G K19.s_is_table_value (by k_is) (by k_is) (by k_is) (by k_is)
    have h11 := Ev.dfOk_mk (f := K19.s "is_zone_value") KX G K19.s_is_zone_value (by k_is) (by k_is) (by k_is) (by k_is)
    have h12 := Ev.dfOk_mk (f := K19.s "add_bounds_tables") KX G K19.s_add_bounds_tables (by k_is) (by k_is) (by k_is) (by k_is)
    have h13 := Ev.dfOk_mk (f := K19.s "is_bound_tables") KX G K19.s_is_bound_tables (by k_is) (by k_is) (by k_is) (by k_is)
    have h14 := Ev.dfOk_mk (f := K19.s "is_table") KX G K19.s_is_table (by k_is) (by k_is) (by k_is) (by k_is)
    have h15 := Ev.dfOk_mk (f := K19.s "is_zone") KX G K19.s_is_zone (by k_is) (by k_is) (by k_is) (by k_is)
    have h16 := Ev.dfOk_mk (f := K19.s "_law_dice") KX G K19.s__law_dice (by k_is) (by k_is) (by k_is) (by k_is)
    have h17 := Ev.dfOk_mk (f := K19.s "_law_roll") KX G K19.s__law_roll (by k_is) (by k_is) (by k_is) (by k_is)
    have h18 := Ev.dfOk_mk (f := K19.s "_law_pick") KX G K19.s__law_pick (by k_is) (by k_is) (by k_is) (by k_is)
    have h19 := Ev.dfOk_mk (f := K19.s "_law_common") KX G K19.s__law_common (by k_is) (by k_is) (by k_is) (by k_is)
    have h20 := Ev.dfOk_mk (f := K19.s "_law_share") KX G K19.s__law_share (by k_is) (by k_is) (by k_is) (by k_is)
    have h21 := Ev.dfOk_mk (f := K19.s "_law_plus") KX G K19.s__law_plus (by k_is) (by k_is) (by k_is) (by k_is)
    have h22 := Ev.dfOk_mk (f := K19.s "_law_is_whole") KX G K19.s__law_is_whole (by k_is) (by k_is) (by k_is) (by k_is)
    have h23 := Ev.dfOk_mk (f := K19.s "_law_sum") KX G K19.s__law_sum (by k_is) (by k_is) (by k_is) (by k_is)
    have h24 := Ev.dfOk_mk (f := K19.s "_law_tight") KX G K19.s__law_tight (by k_is) (by k_is) (by k_is) (by k_is)
    have h25 := Ev.dfOk_mk (f := K19.s "_law_closed") KX G K19.s__law_closed (by k_is) (by k_is) (by k_is) (by k_is)
    have h26 := Ev.dfOk_mk (f := K19.s "_law_holds") KX G K19.s__law_holds (by k_is) (by k_is) (by k_is) (by k_is)
    have h27 := Ev.dfOk_mk (f := K19.s "_law_is_table") KX G K19.s__law_is_table (by k_is) (by k_is) (by k_is) (by k_is)
    have h28 := Ev.dfOk_mk (f := K19.s "_law_is_zone") KX G K19.s__law_is_zone (by k_is) (by k_is) (by k_is) (by k_is)
    have h29 := Ev.dfOk_mk (f := K19.s "_law_drawn_table") KX G K19.s__law_drawn_table (by k_is) (by k_is) (by k_is) (by k_is)
    have h30 := Ev.dfOk_mk (f := K19.s "_law_drawn_zone") KX G K19.s__law_drawn_zone (by k_is) (by k_is) (by k_is) (by k_is)
    have h31 := Ev.dfOk_mk (f := K19.s "_law_drawn_bound") KX G K19.s__law_drawn_bound (by k_is) (by k_is) (by k_is) (by k_is)
    have h32 := Ev.dfOk_mk (f := K19.s "_law_holds_sum") KX G K19.s__law_holds_sum (by k_is) (by k_is) (by k_is) (by k_is)
    have h33 := Ev.dfOk_mk (f := K19.s "_law_right") KX G K19.s__law_right (by k_is) (by k_is) (by k_is) (by k_is)
    have h34 := Ev.dfOk_mk (f := K19.s "law") KX G K19.s_law (by k_is) (by k_is) (by k_is) (by k_is)
    have f0 : mg (K19.s "len") = none := PySem.W.mg_none_of KX G (by k_is)
    have f1 : mg (K19.s "abs") = none := PySem.W.mg_none_of KX G (by k_is)
    have f2 : mg (K19.s "max") = none := PySem.W.mg_none_of KX G (by k_is)
    have f3 : mg (K19.s "min") = none := PySem.W.mg_none_of KX G (by k_is)
    have f4 : mg (K19.s "int") = none := PySem.W.mg_none_of KX G (by k_is)
    have f5 : mg (K19.s "isinstance") = none := PySem.W.mg_none_of KX G (by k_is)
    have f6 : mg (K19.s "list") = none := PySem.W.mg_none_of KX G (by k_is)
    have f7 : mg (K19.s "tuple") = none := PySem.W.mg_none_of KX G (by k_is)
    have f8 : mg (K19.s "any") = none := PySem.W.mg_none_of KX G (by k_is)
    have f9 : mg (K19.s "all") = none := PySem.W.mg_none_of KX G (by k_is)
    have f10 : mg (K19.s "repr") = none := PySem.W.mg_none_of KX G (by k_is)
    have f11 : mg (K19.s "range") = none := PySem.W.mg_none_of KX G (by k_is)
    have f12 : mg (K19.s "enumerate") = none := PySem.W.mg_none_of KX G (by k_is)
    have f13 : mg (K19.s "bool") = none := PySem.W.mg_none_of KX G (by k_is)
    have c0 := Ev.const_int (x := K19.s "MOST_THINGS") (i := 6) (X := KX) (G := G) (by k_is)
    have rows : Ev.RowsOk _ mg K19.cT := ⟨Ev.row_of h0, Ev.row_of h1, Ev.row_of h2, Ev.row_of h3, Ev.row_of h4, Ev.row_of h5, Ev.row_of h6, Ev.row_of h7, Ev.row_of h8, Ev.row_of h9, Ev.row_of h10, Ev.row_of h11, Ev.row_of h12, Ev.row_of h13, Ev.row_of h14, Ev.row_of h15, Ev.row_of h16, Ev.row_of h17, Ev.row_of h18, Ev.row_of h19, Ev.row_of h20, Ev.row_of h21, Ev.row_of h22, Ev.row_of h23, Ev.row_of h24, Ev.row_of h25, Ev.row_of h26, Ev.row_of h27, Ev.row_of h28, Ev.row_of h29, Ev.row_of h30, Ev.row_of h31, Ev.row_of h32, Ev.row_of h33, Ev.row_of h34, trivial⟩
    have mod : Ev.ModOk K19.cM _ mg := Ev.mod_mk (T := K19.cT) ⟨c0, trivial⟩ rows K19.all_in ⟨f0, f1, f2, f3, f4, f5, f6, f7, f8, f9, f10, f11, f12, f13, trivial⟩ K19.nm_in
    exact ⟨Ev.tab_mk mod rows K19.all_in, K19.d_law, rfl, h34⟩
