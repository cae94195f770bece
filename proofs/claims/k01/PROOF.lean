import PyProof.Rows.All
import Wide.All
import OpenK.AllK
import Wide.FinOn
import HandS.ExcInit
import HandS.ExcField
import HandS.ForMost
import HandS.ForExc
import HandS.Wide
import HandS.Flow
import HandS.IsInst
import HandS.Gcd
import HandS.FStr
import HandS.TupAny
import HandS.Style
import HandS.CallSlots
import HandS.Defaults
import HandS.TryMany
import HandS.HeadHook4
import HandS.Walk
import KE.DataEq
import HandS.Head2
import HandS.Head3
import HandS.HeadWalk
import HandS.Codes
import PySem.Challenge.RW_alreadytold_k01_whole_ratios
section
set_option Elab.async false
set_option linter.all false
set_option maxRecDepth 100000
/-! VA: an evaluator over the model's syntax trees, on plain data. -/
namespace VE
open PySem PySem.Spec PyProof.Rows L2

/-! ### data -/
inductive D where
  | non | bl (b : Bool) | int (i : Int) | str (s : Str) | tup (xs : List D) | lst (xs : List D)
  /-- a list that is read alone (the script, a list of the module's) -/
  | scr (xs : List D)
  | obj (c : Str) (fs : List (Str × D))
  deriving Inhabited

mutual
def plainD : D → Bool
  | .tup xs => plainDs xs
  | .lst xs => plainDs xs
  | .scr xs => plainDs xs
  | .obj _ _ => false
  | _ => true
def plainDs : List D → Bool
  | [] => true
  | x :: xs => plainD x && plainDs xs
end
mutual
def toPy : D → PyData
  | .non => .none
  | .bl b => .bool b
  | .int i => .int i
  | .str s => .str s
  | .tup xs => .tuple (toPys xs)
  | .lst xs => .list (toPys xs)
  | .scr xs => .list (toPys xs)
  | .obj _ _ => .none
def toPys : List D → List PyData
  | [] => []
  | x :: xs => toPy x :: toPys xs
end
def eqD (x y : D) : Bool := PyData.eqv (toPy x) (toPy y)
/-- both may be compared: no objects within, one of them not deep -/
def eqOk (x y : D) : Bool := plainD x && plainD y && decide (min (toPy x).depth (toPy y).depth ≤ 64)

def truD : D → Option Bool
  | .non => some false
  | .bl b => some b
  | .int i => some (i != 0)
  | .str y => if y.length ≤ sizeLine then some ((y.length : Int) != 0) else none
  | .tup xs => some (!xs.isEmpty)
  | .lst xs => some (!xs.isEmpty)
  | .scr xs => some (!xs.isEmpty)
  | .obj _ _ => none

def tyD : D → Option String
  | .non => some "NoneType"
  | .bl _ => some "bool"
  | .int _ => some "int"
  | .str _ => some "str"
  | .tup _ => some "tuple"
  | .lst _ => some "list"
  | .scr _ => none
  | .obj _ _ => none

/-! ### operators -/
def mulOk (i j : Int) : Bool := decide (i.natAbs.log2 + j.natAbs.log2 < 1000000)
def divOk (j : Int) : Bool := decide (0 < j) && decide (j.natAbs.log2 < 9000)
def binI (op : Operator) (i j : Int) : Option Int := match op with
  | .Add => some (i + j)
  | .Sub => some (i - j)
  | .Mult => if mulOk i j then some (i * j) else none
  | .FloorDiv => if divOk j then some (i / j) else none
  | .Mod => if decide (0 < j) then some (i % j) else none
  | .Pow => if decide (0 ≤ j) && decide (j ≤ 1000000) && decide (i.natAbs < 2 ^ 64) then some (i ^ j.toNat) else none
  | .LShift => if decide (0 ≤ j) && decide (j ≤ 1000000) && decide (i.natAbs < 2 ^ 64) then some (i * 2 ^ j.toNat) else none
  | .RShift => if decide (0 ≤ j) then some (i / 2 ^ j.toNat) else none
  | .BitAnd => some (Builtin.bitAnd i j)
  | .BitOr => some (Builtin.bitOr i j)
  | _ => none
def szOk (n : Nat) : Bool := decide (n ≤ sizeLine)
/-- the value, and whether it is a new list -/
def binD (op : Operator) : D → D → Option (D × Bool)
  | .int i, .int j => (binI op i j).map fun z => (.int z, false)
  | .lst xs, .lst ys => (match op with
    | .Add => if szOk (xs.length + ys.length) then some (.lst (xs ++ ys), true) else none
    | _ => none)
  | .tup xs, .tup ys => (match op with
    | .Add => if szOk (xs.length + ys.length) then some (.tup (xs ++ ys), false) else none
    | _ => none)
  | .str x, .str y => (match op with
    | .Add => if szOk (x.length + y.length) then some (.str (x ++ y), false) else none
    | _ => none)
  | .lst xs, .int k => (match op with
    | .Mult => if szOk (xs.length * k.toNat) && decide (-(2 ^ 63) ≤ k) && decide (k < 2 ^ 63) then some (.lst (List.replicate k.toNat xs).flatten, true) else none
    | _ => none)
  | _, _ => none
def isNonD : D → Bool
  | .non => true
  | _ => false
def memD (x : D) (ys : List D) : Bool := ys.any fun z => eqD z x
def cmpD (op : CmpOp) (x y : D) : Option Bool := match op with
  | .Eq => if eqOk x y then some (eqD x y) else none
  | .NotEq => if eqOk x y then some (!eqD x y) else none
  | .Lt => (match x, y with
    | .int i, .int j => some (decide (i < j))
    | _, _ => none)
  | .LtE => (match x, y with
    | .int i, .int j => some (decide (i ≤ j))
    | _, _ => none)
  | .Gt => (match x, y with
    | .int i, .int j => some (decide (j < i))
    | _, _ => none)
  | .GtE => (match x, y with
    | .int i, .int j => some (decide (j ≤ i))
    | _, _ => none)
  | .Is => (match x, y with
    | _, .non => some (isNonD x)
    | .bl a, .bl b => some (decide (a = b))
    | _, _ => none)
  | .IsNot => (match x, y with
    | _, .non => some (!isNonD x)
    | .bl a, .bl b => some (!decide (a = b))
    | _, _ => none)
  | .In => (match y with
    | .lst ys => if eqOk x y then some (memD x ys) else none
    | .tup ys => if eqOk x y then some (memD x ys) else none
    | _ => none)
  | .NotIn => (match y with
    | .lst ys => if eqOk x y then some (!memD x ys) else none
    | .tup ys => if eqOk x y then some (!memD x ys) else none
    | _ => none)
def ixD : D → D → Option D
  | .lst xs, .int i => atI xs i
  | .scr xs, .int i => atI xs i
  | .tup xs, .int i => atI xs i
  | .str z, .int i => if szOk z.length then (atI z.cps.toList i).map fun c => .str ⟨#[c]⟩ else none
  | _, _ => none
def cutX {α : Type} (xs : List α) (lo hi : Option Int) : List α := (xs.drop (HT.sIx xs.length 0 lo)).take (HT.sIx xs.length xs.length hi - HT.sIx xs.length 0 lo)
def cutD : D → Option Int → Option Int → Option (D × Bool)
  | .lst xs, lo, hi => some (.lst (cutX xs lo hi), true)
  | .tup xs, lo, hi => some (.tup (cutX xs lo hi), false)
  | _, _, _ => none
def sumI : List D → Option (List Int)
  | [] => some []
  | .int i :: r => (sumI r).map (i :: ·)
  | _ :: _ => none
def allB : List D → Option (List Bool)
  | [] => some []
  | .bl i :: r => (allB r).map (i :: ·)
  | _ :: _ => none
/-- a built-in function or type, called -/
def biD (x : Str) (ds : List D) : Option (D × Bool) :=
  if x = "len" then (match ds with
    | [.lst xs] => some (.int xs.length, false)
    | [.scr xs] => some (.int xs.length, false)
    | [.tup xs] => some (.int xs.length, false)
    | [.str z] => if szOk z.length then some (.int z.length, false) else none
    | _ => none)
  else if x = "abs" then (match ds with
    | [.int i] => some (.int (if i < 0 then -i else i), false)
    | _ => none)
  else if x = "int" then (match ds with
    | [.int i] => some (.int i, false)
    | [.bl b] => some (.int (if b then 1 else 0), false)
    | _ => none)
  else if x = "str" then (match ds with
    | [.int i] => if decide (i.natAbs.log2 < 1920) then some (.str (toString i), false) else none
    | _ => none)
  else if x = "tuple" then (match ds with
    | [.lst xs] => some (.tup xs, false)
    | [.scr xs] => some (.tup xs, false)
    | [.tup xs] => some (.tup xs, false)
    | _ => none)
  else if x = "list" then (match ds with
    | [.lst xs] => some (.lst xs, true)
    | [.scr xs] => some (.lst xs, true)
    | [.tup xs] => some (.lst xs, true)
    | _ => none)
  else if x = "sum" then (match ds with
    | [.lst xs] => (sumI xs).map fun ns => (.int ns.sum, false)
    | _ => none)
  else if x = "any" then (match ds with
    | [.lst xs] => (allB xs).map fun bs => (.bl (bs.any id), false)
    | _ => none)
  else if x = "all" then (match ds with
    | [.lst xs] => (allB xs).map fun bs => (.bl (bs.all id), false)
    | _ => none)
  else if x = "max" then (match ds with
    | [.int i, .int j] => some (.int (if j > i then j else i), false)
    | _ => none)
  else if x = "min" then (match ds with
    | [.int i, .int j] => some (.int (if j < i then j else i), false)
    | _ => none)
  else none

/-- a built-in that is served: a function (true), a type (false) -/
def biK (x : Str) : Option Bool :=
  if (["len", "abs", "sum", "any", "all", "max", "min"] : List Str).contains x then some true
  else if (["int", "str", "tuple", "list"] : List Str).contains x then some false
  else none

/-! ### slots -/
inductive Md where
  | own | par | lck
  deriving DecidableEq
/-- a slot: not assigned; a value (a list in it is never changed again); a parameter that was so fixed; a list of its own -/
inductive Sl where
  | un | fz (d : D) | pz (d : D) | ow (m : Md) (d : D)
abbrev Ro := List Sl
/-- what an expression gives: the object of slot i; a value (f: a new list) -/
inductive Bv where
  | at (i : Nat) | va (d : D) (f : Bool)
inductive Rs (α : Type) where
  | stuck | ok (a : α) (ρ : Ro) | exc (c : Str) (fs : List (Str × D)) (ρ : Ro)
def Rs.bind {α β : Type} (r : Rs α) (k : α → Ro → Rs β) : Rs β := match r with
  | .stuck => .stuck
  | .ok a ρ => k a ρ
  | .exc c fs ρ => .exc c fs ρ
def Rs.of {α : Type} (o : Option α) (ρ : Ro) : Rs α := match o with
  | some a => .ok a ρ
  | none => .stuck
/-- how a statement ends -/
inductive Rf where
  | stuck | next (ρ : Ro) | ret (b : Bv) (ρ : Ro) | brk (ρ : Ro) | cnt (ρ : Ro) | exc (c : Str) (fs : List (Str × D)) (ρ : Ro)
/-- how a call ends; what stands behind in the parameters -/
inductive Cr where
  | stuck | ret (d : D) (f : Bool) (as : List Sl) | exc (c : Str) (fs : List (Str × D)) (as : List Sl)
/-- what a module's name is -/
inductive Gk where
  | no | free | fn | con (d : D) | bfn (id : String) | ex
  deriving Inhabited
/-- where a parameter's value comes from, in a call with keywords -/
inductive KwSrc where
  | pos (i : Nat) | dfl (i : Nat) | kw (i : Nat)
def planL {α : Type} (z : α) (us its ws : List α) (pl : List KwSrc) : List α := pl.map fun
  | .pos i => (us[i]?).getD z
  | .dfl i => (its[i]?).getD z
  | .kw i => (ws[i]?).getD z
structure Mdl where
  glob : Str → Gk
  /-- an own function, all its parameters given -/
  call : Str → List Sl → Cr
  /-- the defaults that fill up behind so many arguments -/
  dfl : Str → Nat → Option (List D)
  /-- an own exception's fields, by its arguments -/
  mkx : Str → List D → Option (List (Str × D))
  /-- is an error of the first class caught by the second name -/
  isx : Str → Str → Option Bool
  /-- may this field be read of an error of this class -/
  fok : Str → Str → Bool
  /-- a call with so many values and these keywords: the plan, all defaults -/
  kwp : Str → Nat → List Str → Option (List KwSrc × List D)

def getSl (ρ : Ro) (i : Nat) : Option D := match ρ[i]? with
  | some (.fz d) => some d
  | some (.pz d) => some d
  | some (.ow _ d) => some d
  | _ => none
def deref (ρ : Ro) : Bv → Option D
  | .at i => getSl ρ i
  | .va d _ => some d
/-- the value is handed on as a whole: a list of a slot's own is fixed -/
def whole (b : Bv) (ρ : Ro) : Rs D := match b with
  | .va d _ => .ok d ρ
  | .at i => (match ρ[i]? with
    | some (.fz d) => .ok d ρ
    | some (.pz d) => .ok d ρ
    | some (.ow .own d) => .ok d (ρ.set i (.fz d))
    | some (.ow .par d) => .ok d (ρ.set i (.pz d))
    | _ => .stuck)
def ixN? (N : List Str) (x : Str) : Option Nat := N.findIdx? (· == x)
def nameOk (x : Str) : Bool := !(x == ("__debug__" : Str)) && !(x == ("__classdict__" : Str)) && !(x == ("__name__" : Str))
def visK (sc : Scope) (x : Str) : Bool := nameOk x && match sc.names.lookup x with
  | some .local => true
  | some .cell => true
  | some .free => true
  | _ => false
def locK (sc : Scope) (x : Str) : Bool := match sc.names.lookup x with
  | some .local => true
  | some .cell => true
  | _ => false
def gloK (sc : Scope) (x : Str) : Bool := nameOk x && match sc.names.lookup x with
  | some .globalImplicit => true
  | _ => false
def mayStore : Option Sl → Bool
  | some .un => true
  | some (.fz _) => true
  | some (.ow .own _) => true
  | _ => false
def store (N : List Str) (sc : Scope) (x : Str) (v : Sl) (ρ : Ro) : Option Ro :=
  match ixN? N x with
  | none => none
  | some i => if locK sc x && mayStore ρ[i]? then some (ρ.set i v) else none

/-! ### the evaluator, one step -/
structure Ev where
  e : Scope → Expr → Ro → Rs Bv
  t : Scope → Expr → Ro → Rs Bool
  es : Scope → List Expr → Ro → Rs (List D)
  as : Scope → List Expr → Ro → Rs (List Bv)
  s : Scope → Stmt → Ro → Rf
  ss : Scope → List Stmt → Ro → Rf
def Ev.bot : Ev := ⟨fun _ _ _ => .stuck, fun _ _ _ => .stuck, fun _ _ _ => .stuck, fun _ _ _ => .stuck, fun _ _ _ => .stuck, fun _ _ _ => .stuck⟩

def notStar : Expr → Bool
  | .Starred .. => false
  | _ => true
def isSlice : Expr → Bool
  | .Slice .. => true
  | _ => false
/-- is the test of this expression its value's truth -/
def plainTest : Expr → Bool
  | .UnaryOp .Not _ _ => false
  | .BoolOp .. => false
  | .IfExp .. => false
  | .Compare .. => false
  | _ => true
def isSetE : Expr → Bool
  | .Set .. => true
  | _ => false
def isComp : Expr → Bool
  | .ListComp .. => true
  | .SetComp .. => true
  | .DictComp .. => true
  | _ => false

/-- the class that isinstance asks: built-in types alone -/
def isiD (t : String) : List Str → Option Bool
  | [] => some false
  | x :: r => (kitB t x.toString).bind fun b => if b then some true else isiD t r
def typeNames : List Str := ["int", "bool", "str", "tuple", "list", "dict"]
def clsOf : Expr → Option (List Str)
  | .Name x _ => if typeNames.contains x then some [x] else none
  | .Tuple es _ _ => es.mapM fun e => match e with
    | .Name x _ => if typeNames.contains x then some x else none
    | _ => none
  | _ => none

/-- the callee's parameters: what is handed over -/
def lend1 (ρ : Ro) : Bv → Option Sl
  | .va d _ => some (.fz d)
  | .at i => (match ρ[i]? with
    | some (.fz d) => some (.fz d)
    | some (.pz d) => some (.fz d)
    | some (.ow .own d) => some (.ow .par d)
    | some (.ow .par d) => some (.ow .par d)
    | some (.ow .lck d) => some (.ow .lck d)
    | _ => none)
def atsOf (ρ : Ro) : List Bv → List Nat
  | [] => []
  | .at i :: r => (match ρ[i]? with
    | some (.ow _ _) => i :: atsOf ρ r
    | _ => atsOf ρ r)
  | .va _ _ :: r => atsOf ρ r
def lend (ρ : Ro) (bs : List Bv) : Option (List Sl) := if decide (atsOf ρ bs).Nodup then bs.mapM (lend1 ρ) else none
def findArg (p : Nat) : List Bv → List Sl → Option Sl
  | .at q :: bs, a :: as => if q = p then some a else findArg p bs as
  | .va _ _ :: bs, _ :: as => findArg p bs as
  | _, _ => none
/-- what a slot is behind a call that it was lent to -/
def comb : Sl → Option Sl → Sl
  | .ow m _, some (.ow _ d) => .ow m d
  | .ow .own _, some (.pz d) => .fz d
  | .ow .par _, some (.pz d) => .pz d
  | s, _ => s
def giveBack (bs : List Bv) (as : List Sl) (ρ : Ro) : Ro := ρ.mapIdx fun p s => comb s (findArg p bs as)

def takeIdx (n : Nat) : List Nat → Bool := fun l => l.all (· < n)

end VE
end

section
set_option Elab.async false
set_option linter.all false
set_option maxRecDepth 100000
/-! VB: the evaluator's steps. -/
namespace VE
open PySem PySem.Spec PyProof.Rows L2

/-! ### targets -/
def asgNames (N : List Str) (sc : Scope) : List Expr → List D → Ro → Option Ro
  | [], [], ρ => some ρ
  | .Name x _ :: es, d :: ds, ρ => (store N sc x (.fz d) ρ).bind fun ρ1 => asgNames N sc es ds ρ1
  | _, _, _ => none
def asgT (N : List Str) (sc : Scope) (tg : Expr) (d : D) (ρ : Ro) : Option Ro := match tg with
  | .Name x _ => store N sc x (.fz d) ρ
  | .Tuple es _ _ => (match d with
    | .tup ds => asgNames N sc es ds ρ
    | _ => none)
  | _ => none
def isTupE : Expr → Bool
  | .Tuple .. => true
  | _ => false
/-! ### loops -/
def lock1 (i : Nat) (ρ : Ro) : Ro := match ρ[i]? with
  | some (.ow _ d) => ρ.set i (.ow .lck d)
  | _ => ρ
def unlock1 (i : Nat) (m : Md) (ρ : Ro) : Ro := match ρ[i]? with
  | some (.ow .lck d) => ρ.set i (.ow m d)
  | _ => ρ
def lockAll : List (Nat × Md) → Ro → Ro
  | [], ρ => ρ
  | (i, _) :: r, ρ => lockAll r (lock1 i ρ)
def unlockAll : List (Nat × Md) → Ro → Ro
  | [], ρ => ρ
  | (i, m) :: r, ρ => unlock1 i m (unlockAll r ρ)
def Rf.map (f : Ro → Ro) : Rf → Rf
  | .stuck => .stuck
  | .next ρ => .next (f ρ)
  | .ret b ρ => .ret b (f ρ)
  | .brk ρ => .brk (f ρ)
  | .cnt ρ => .cnt (f ρ)
  | .exc c fs ρ => .exc c fs (f ρ)
def loopF (asg : D → Ro → Option Ro) (body : Ro → Rf) : List D → Ro → Rf
  | [], ρ => .next ρ
  | x :: xs, ρ => (match asg x ρ with
    | none => .stuck
    | some ρ1 => (match body ρ1 with
      | .next ρ2 => loopF asg body xs ρ2
      | .cnt ρ2 => loopF asg body xs ρ2
      | .brk ρ2 => .next ρ2
      | r => r))
def loopW (test : Ro → Rs Bool) (body : Ro → Rf) : Nat → Ro → Rf
  | 0, _ => .stuck
  | k + 1, ρ => (match test ρ with
    | .stuck => .stuck
    | .exc c fs ρ1 => .exc c fs ρ1
    | .ok b ρ1 => if b then (match body ρ1 with
      | .next ρ2 => loopW test body k ρ2
      | .cnt ρ2 => loopW test body k ρ2
      | .brk ρ2 => .next ρ2
      | r => r) else .next ρ1)
def wipeR : List Nat → Ro → Ro
  | [], ρ => ρ
  | i :: is, ρ => (wipeR is ρ).set i .un
/-- the slots of a block's own names as they were -/
def unwipe (old : Ro) : List Nat → Ro → Ro
  | [], ρ => ρ
  | i :: is, ρ => (unwipe old is ρ).set i (old.getD i .un)
def loopC (idx : List Nat) (asg : D → Ro → Option Ro) (test : Ro → Rs Bool) (elt : Ro → Rs Bv) : List D → List D → Ro → Rs (List D)
  | [], acc, ρ => .ok acc ρ
  | x :: xs, acc, ρ => (match asg x ρ with
    | none => .stuck
    | some ρ1 => (match test ρ1 with
      | .ok b ρ2 => if b then (match elt ρ2 with
          | .ok v ρ3 => (match whole v ρ3 with
            | .ok d ρ4 => if decide (acc.length < sizeLine) then loopC idx asg test elt xs (acc ++ [d]) (wipeR idx ρ4) else .stuck
            | _ => .stuck)
          | _ => .stuck)
        else loopC idx asg test elt xs acc (wipeR idx ρ2)
      | _ => .stuck))
def flatSl : Option Sl → Bool
  | some .un => true
  | some (.fz _) => true
  | _ => false

def Rs.toF {α : Type} (r : Rs α) (k : α → Ro → Rf) : Rf := match r with
  | .stuck => .stuck
  | .ok a ρ => k a ρ
  | .exc c fs ρ => .exc c fs ρ
def Rf.of (o : Option Ro) : Rf := match o with
  | some ρ => .next ρ
  | none => .stuck
def isAS : Operator → Bool
  | .Add => true
  | .Sub => true
  | _ => false
def intsD : List D → Option (List Int)
  | [] => some []
  | .int i :: r => (intsD r).map (i :: ·)
  | _ :: _ => none
def rngD (lo : Int) (n : Nat) : List D := (List.range n).map fun (k : Nat) => D.int (lo + (k : Int))
def small62 (i : Int) : Bool := decide (-(2 ^ 62) ≤ i) && decide (i < 2 ^ 62)
def rangeD : List Int → Option (List D)
  | [j] => if small62 j then some (rngD 0 j.toNat) else none
  | [i, j] => if small62 i && small62 j then some (rngD i (j - i).toNat) else none
  | _ => none
def enumD (ds : List D) : List D := ((List.range ds.length).zip ds).map fun p => D.tup [.int (p.1 : Int), p.2]
def zipD (ds es : List D) : List D := (ds.zip es).map fun p => D.tup [p.1, p.2]
def toStrD : D → Option Str
  | .str y => if szOk y.length then some y else none
  | .int i => if decide (i.natAbs.log2 < 1920) then some (toString i) else none
  | _ => none

section
variable (M : Mdl) (N : List Str)
abbrev isFree (sc : Scope) (f : Str) : Bool := gloK sc f && (match M.glob f with | .free => true | _ => false)

def partS (E : Ev) (sc : Scope) (o : Option Expr) (ρ : Ro) : Rs (Option Int) := match o with
  | none => .ok none ρ
  | some e => (E.e sc e ρ).bind fun b ρ1 => (match deref ρ1 b with
    | some (.int i) => .ok (some i) ρ1
    | _ => .stuck)
def joinL (E : Ev) (sc : Scope) : List Expr → Str → Ro → Rs Str
  | [], acc, ρ => .ok acc ρ
  | e :: r, acc, ρ => (E.e sc e ρ).bind fun b ρ1 => (match deref ρ1 b with
    | some (.str y) => if szOk (acc ++ y).length then joinL E sc r (acc ++ y) ρ1 else .stuck
    | _ => .stuck)
/-- a list alone (enumerate, zip) -/
def walkL (b : Bv) (ρ : Ro) : Option (List D × List (Nat × Md)) := match b with
  | .va (.lst xs) _ => some (xs, [])
  | .va _ _ => none
  | .at i => (match ρ[i]? with
    | some (.fz (.lst xs)) => some (xs, [])
    | some (.pz (.lst xs)) => some (xs, [])
    | some (.ow m (.lst xs)) => some (xs, [(i, m)])
    | _ => none)
/-- a list to be walked: its items; the slot that is locked meanwhile -/
def walkB (b : Bv) (ρ : Ro) : Option (List D × List (Nat × Md)) := match b with
  | .va (.tup xs) _ => some (xs, [])
  | .va (.scr xs) _ => some (xs, [])
  | b => walkL b ρ
inductive Ik where
  | gen | rng1 (a : Expr) | rng2 (a b : Expr) | enu (a : Expr) | zip (a b : Expr)
/-- how the source of a walk is written -/
def iterK (sc : Scope) (tg it : Expr) : Ik := match it with
  | .Call (.Name f _) [a] [] _ => if isFree M sc f && notStar a then (if f = "range" then .rng1 a else if f = "enumerate" then (if isTupE tg then .enu a else .gen) else .gen) else .gen
  | .Call (.Name f _) [a, b] [] _ => if isFree M sc f && (notStar a && notStar b) then (if f = "range" then .rng2 a b else if f = "zip" then (if isTupE tg then .zip a b else .gen) else .gen) else .gen
  | _ => .gen
def iterS (E : Ev) (sc : Scope) (tg : Expr) (it : Expr) (ρ : Ro) : Rs (List D × List (Nat × Md)) := match iterK M sc tg it with
  | .gen => (E.e sc it ρ).bind fun b ρ1 => Rs.of (walkB b ρ1) ρ1
  | .rng1 a => (E.e sc a ρ).bind fun b ρ1 => (match deref ρ1 b with
    | some (.int j) => if small62 j then .ok (rngD 0 j.toNat, []) ρ1 else .stuck
    | _ => .stuck)
  | .rng2 a b => (E.e sc a ρ).bind fun x ρ1 => (E.e sc b ρ1).bind fun y ρ2 => (match deref ρ2 x, deref ρ2 y with
    | some (.int i), some (.int j) => if small62 i && small62 j then .ok (rngD i (j - i).toNat, []) ρ2 else .stuck
    | _, _ => .stuck)
  | .enu a => (E.e sc a ρ).bind fun b ρ1 => Rs.of ((walkL b ρ1).map fun w => (enumD w.1, w.2)) ρ1
  | .zip a b => (E.e sc a ρ).bind fun x ρ1 => (E.e sc b ρ1).bind fun y ρ2 => Rs.of ((walkL x ρ2).bind fun w => (walkL y ρ2).bind fun u => if decide ((w.2 ++ u.2).map (·.1)).Nodup then some (zipD w.1 u.1, w.2 ++ u.2) else none) ρ2

def ownOf (N : List Str) (scope : Scope) : List Str := (scope.names.filterMap fun p => match p.2 with | .local => some p.1 | .cell => some p.1 | _ => none).filter fun x => (ixN? N x).isSome
/-- a target's names, each with a place and a local -/
def nmOk (N : List Str) (sc : Scope) : Expr → Bool
  | .Name x _ => (ixN? N x).isSome && locK sc x
  | _ => false
def tgOk (N : List Str) (sc : Scope) : Expr → Bool
  | .Name x _ => (ixN? N x).isSome && locK sc x
  | .Tuple es _ _ => es.all (nmOk N sc)
  | _ => false
def testS (E : Ev) (sc : Scope) (ifs : List Expr) (ρ : Ro) : Rs Bool := match ifs with
  | [] => .ok true ρ
  | [c] => E.t sc c ρ
  | _ => .stuck
def compS (E : Ev) (sc : Scope) (elt tg it : Expr) (ifs : List Expr) (scope : Scope) (ρ : Ro) : Rs Bv :=
  match (ownOf N scope).mapM (ixN? N) with
  | none => .stuck
  | some idx =>
    if blkC N sc scope ((ownOf N scope).zip idx) && tgOk N scope tg && !isSetE it && decide (ifs.length ≤ 1) then
      (iterS M E sc tg it ρ).bind fun w ρ1 => if idx.all (fun i => flatSl (lockAll w.2 ρ1)[i]?) then
        (match loopC idx (asgT N scope tg) (testS E scope ifs) (E.e scope elt) w.1 [] (wipeR idx (lockAll w.2 ρ1)) with
        | .ok ds ρ2 => .ok (.va (.lst ds) true) (unlockAll w.2 (unwipe (lockAll w.2 ρ1) idx ρ2))
        | _ => .stuck) else .stuck
    else .stuck

def callS (E : Ev) (sc : Scope) (f : Str) (args : List Expr) (ρ : Ro) : Rs Bv :=
  if gloK sc f && args.all notStar then (match M.glob f with
    | .fn => (match M.dfl f args.length with
      | none => .stuck
      | some ds => (E.as sc args ρ).bind fun bs ρ1 => (match lend ρ1 bs with
        | none => .stuck
        | some sls => (match M.call f (sls ++ ds.map .fz) with
          | .stuck => .stuck
          | .ret d b as => .ok (.va d b) (giveBack bs as ρ1)
          | .exc c fs as => .exc c fs (giveBack bs as ρ1))))
    | .bfn id => if id = "math.gcd" then (E.as sc args ρ).bind fun bs ρ1 => (match bs.mapM (deref ρ1) with
        | some [.int a, .int b] => .ok (.va (.int ((Nat.gcd a.natAbs b.natAbs : Nat) : Int)) false) ρ1
        | _ => .stuck) else .stuck
    | .free => if f = "isinstance" then (match args with
        | [a, c] => (match clsOf c with
          | some xs => if xs.all (fun x => isFree M sc x) && decide (xs.length ≤ 64) && notStar a && notStar c then (E.e sc a ρ).bind fun b ρ1 => Rs.of ((((deref ρ1 b).bind tyD).bind fun t => isiD t xs).map fun r => Bv.va (.bl r) false) ρ1 else .stuck
          | none => .stuck)
        | _ => .stuck)
      else (match biK f with
        | none => .stuck
        | some _ => (E.as sc args ρ).bind fun bs ρ1 => Rs.of (((bs.mapM (deref ρ1)).bind (biD f)).map fun z => Bv.va z.1 z.2) ρ1)
    | _ => .stuck)
  else .stuck

/-- the keywords' values -/
def kwE (E : Ev) (sc : Scope) : List Keyword → Ro → Rs (List D)
  | [], ρ => .ok [] ρ
  | kw :: r, ρ => (E.e sc kw.value ρ).bind fun b ρ1 => (whole b ρ1).bind fun d ρ2 => (kwE E sc r ρ2).bind fun ds ρ3 => .ok (d :: ds) ρ3
/-- a call with keywords: all values fixed -/
def kwS (E : Ev) (sc : Scope) (f : Str) (args : List Expr) (kws : List Keyword) (ρ : Ro) : Rs Bv :=
  if gloK sc f && args.all notStar then (match M.glob f with
    | .fn => (match kws.mapM (·.arg) with
      | none => .stuck
      | some ks => (match M.kwp f args.length ks with
        | none => .stuck
        | some (pl, dfs) => (E.es sc args ρ).bind fun ds ρ1 => (kwE E sc kws ρ1).bind fun es ρ2 => if decide (ds.length = args.length) && decide (es.length = ks.length) then (match M.call f ((planL .non ds dfs es pl).map .fz) with
          | .stuck => .stuck
          | .ret d b as => .ok (.va d b) ρ2
          | .exc c fs as => .exc c fs ρ2) else .stuck))
    | _ => .stuck)
  else .stuck

/-- the list of slot i grows -/
def appS (E : Ev) (sc : Scope) (a : Expr) (i : Nat) (ρ1 : Ro) : Rs Bv := match ρ1[i]? with
  | some (.ow _ (.lst _)) => (E.e sc a ρ1).bind fun v ρ2 => (whole v ρ2).bind fun d ρ3 => (match ρ3[i]? with
    | some (.ow md (.lst xs)) => if decide (md ≠ .lck) && decide (xs.length < sizeLine) then .ok (.va .non false) (ρ3.set i (.ow md (.lst (xs ++ [d])))) else .stuck
    | _ => .stuck)
  | _ => .stuck

def stepE (E : Ev) (sc : Scope) (e : Expr) (ρ : Ro) : Rs Bv := match e with
  | .Name x _ =>
    if visK sc x then (match ixN? N x with
      | none => .stuck
      | some i => (match ρ[i]? with
        | some (.fz d) => .ok (.va d false) ρ
        | some (.pz d) => .ok (.va d false) ρ
        | some (.ow _ _) => .ok (.at i) ρ
        | _ => .stuck))
    else if gloK sc x then (match M.glob x with
      | .con d => .ok (.va d false) ρ
      | _ => .stuck)
    else .stuck
  | .Constant c _ _ => (match c with
    | .int i => .ok (.va (.int i) false) ρ
    | .bool b => .ok (.va (.bl b) false) ρ
    | .none => .ok (.va .non false) ρ
    | .str s => .ok (.va (.str s) false) ρ
    | _ => .stuck)
  | .BinOp a op b _ => (E.e sc a ρ).bind fun x ρ1 => (E.e sc b ρ1).bind fun y ρ2 =>
      Rs.of ((deref ρ2 x).bind fun dx => (deref ρ2 y).bind fun dy => (binD op dx dy).map fun z => Bv.va z.1 z.2) ρ2
  | .UnaryOp op a _ => (match op with
    | .USub => (E.e sc a ρ).bind fun x ρ1 => (match deref ρ1 x with
      | some (.int i) => .ok (.va (.int (-i)) false) ρ1
      | _ => .stuck)
    | .Not => (E.e sc a ρ).bind fun x ρ1 => Rs.of (((deref ρ1 x).bind truD).map fun b => Bv.va (.bl (!b)) false) ρ1
    | _ => .stuck)
  | .BoolOp op vs p => (match vs with
    | [a] => E.e sc a ρ
    | a :: b :: r => (E.e sc a ρ).bind fun x ρ1 => (match (deref ρ1 x).bind truD with
      | none => .stuck
      | some k => (match op with
        | .And => if k then E.e sc (.BoolOp .And (b :: r) p) ρ1 else .ok x ρ1
        | .Or => if k then .ok x ρ1 else E.e sc (.BoolOp .Or (b :: r) p) ρ1))
    | [] => .stuck)
  | .IfExp c a b _ => (E.t sc c ρ).bind fun k ρ1 => if k then E.e sc a ρ1 else E.e sc b ρ1
  | .Compare a ops bs _ => (match ops, bs with
    | [op], [b] => if behindInMarks op b then .stuck else (E.e sc a ρ).bind fun x ρ1 => (E.e sc b ρ1).bind fun y ρ2 =>
        Rs.of ((deref ρ2 x).bind fun dx => (deref ρ2 y).bind fun dy => (cmpD op dx dy).map fun z => Bv.va (.bl z) false) ρ2
    | [op, op'], [b, c] => if behindInMarks op b || behindInMarks op' c then .stuck else (E.e sc a ρ).bind fun x ρ1 => (E.e sc b ρ1).bind fun y ρ2 =>
        (match (deref ρ2 x).bind fun dx => (deref ρ2 y).bind fun dy => cmpD op dx dy with
        | none => .stuck
        | some k => if k then (E.e sc c ρ2).bind fun z ρ3 =>
            Rs.of ((deref ρ3 y).bind fun dy => (deref ρ3 z).bind fun dz => (cmpD op' dy dz).map fun r => Bv.va (.bl r) false) ρ3
          else .ok (.va (.bl false) false) ρ2)
    | _, _ => .stuck)
  | .Tuple es _ _ => (E.es sc es ρ).bind fun ds ρ1 => if szOk ds.length then .ok (.va (.tup ds) false) ρ1 else .stuck
  | .List es _ => (E.es sc es ρ).bind fun ds ρ1 => if szOk ds.length then .ok (.va (.lst ds) true) ρ1 else .stuck
  | .Subscript a s _ => (match s with
    | .Slice lo hi st _ => (match st with
      | none => (E.e sc a ρ).bind fun x ρ1 => (partS E sc lo ρ1).bind fun l ρ2 => (partS E sc hi ρ2).bind fun h ρ3 =>
          Rs.of ((deref ρ3 x).bind fun dx => (cutD dx l h).map fun z => Bv.va z.1 z.2) ρ3
      | some _ => .stuck)
    | _ => (E.e sc a ρ).bind fun x ρ1 => (E.e sc s ρ1).bind fun y ρ2 =>
        Rs.of ((deref ρ2 x).bind fun dx => (deref ρ2 y).bind fun dy => (ixD dx dy).map fun z => Bv.va z false) ρ2)
  | .FormattedValue v c sp _ => (match sp with
    | none => if c = -1 then (E.e sc v ρ).bind fun x ρ1 => Rs.of (((deref ρ1 x).bind toStrD).map fun y => Bv.va (.str y) false) ρ1 else .stuck
    | some _ => .stuck)
  | .JoinedStr vs _ => (match vs with
    | a :: b :: r => (joinL E sc (a :: b :: r) Str.empty ρ).bind fun w ρ1 => .ok (.va (.str w) false) ρ1
    | _ => .stuck)
  | .ListComp elt gs scope _ => (match gs with
    | [⟨tg, it, ifs, 0⟩] => compS M N E sc elt tg it ifs scope ρ
    | _ => .stuck)
  | .Call fn args kws p => (match fn with
    | .Name f _ => (match kws with
      | [] => (match args with
        | [] => .stuck
        | _ :: _ => callS M E sc f args ρ)
      | _ :: _ => (match args with
        | [] => .stuck
        | _ :: _ => kwS M E sc f args kws ρ))
    | .Attribute o m ap => (match o, kws, args with
      | .Name x px, [], [a] => if m = "append" then (if notStar a && (ap.endLine == p.line) then (E.e sc (.Name x px) ρ).bind fun x ρ1 => (match x with
          | .at i => appS E sc a i ρ1
          | _ => .stuck) else .stuck) else .stuck
      | _, _, _ => .stuck)
    | _ => .stuck)
  | _ => .stuck

def stepT (E : Ev) (sc : Scope) (e : Expr) (ρ : Ro) : Rs Bool := match e with
  | .UnaryOp .Not a _ => (E.t sc a ρ).bind fun b ρ1 => .ok (!b) ρ1
  | .BoolOp op vs p => (match vs with
    | [a] => E.t sc a ρ
    | a :: b :: r => (E.t sc a ρ).bind fun k ρ1 => (match op with
      | .And => if k then E.t sc (.BoolOp .And (b :: r) p) ρ1 else .ok false ρ1
      | .Or => if k then .ok true ρ1 else E.t sc (.BoolOp .Or (b :: r) p) ρ1)
    | [] => .stuck)
  | .IfExp .. => .stuck
  | .Compare a ops bs p => (stepE M N E sc (.Compare a ops bs p) ρ).bind fun x ρ1 => (match x with
    | .va (.bl b) _ => .ok b ρ1
    | _ => .stuck)
  | e => (E.e sc e ρ).bind fun x ρ1 => Rs.of ((deref ρ1 x).bind truD) ρ1
def stepEs (E : Ev) (sc : Scope) (es : List Expr) (ρ : Ro) : Rs (List D) := match es with
  | [] => .ok [] ρ
  | e :: r => if notStar e then (E.e sc e ρ).bind fun b ρ1 => (whole b ρ1).bind fun d ρ2 => (E.es sc r ρ2).bind fun ds ρ3 => .ok (d :: ds) ρ3 else .stuck
def stepAs (E : Ev) (sc : Scope) (es : List Expr) (ρ : Ro) : Rs (List Bv) := match es with
  | [] => .ok [] ρ
  | e :: r => if notStar e then (E.e sc e ρ).bind fun b ρ1 => (E.as sc r ρ1).bind fun bs ρ3 => .ok ((match b with | .at i => .at i | .va d _ => .va d false) :: bs) ρ3 else .stuck

/-- a store of what an expression gave -/
def putB (sc : Scope) (x : Str) (b : Bv) (ρ : Ro) : Rf := match b with
  | .va d true => Rf.of (store N sc x (.ow .own d) ρ)
  | .va d false => Rf.of (store N sc x (.fz d) ρ)
  | .at i => (whole (.at i) ρ).toF fun d ρ1 => Rf.of (store N sc x (.fz d) ρ1)
/-- a, b = x, y by swapped stores -/
def parC (N : List Str) (sc : Scope) (x : Str) (px : Pos) (y : Str) (py : Pos) (a b : Expr) : Bool :=
  decide (x ≠ y) && (match sc.names.lookup x with | some .local => true | _ => false) && (match sc.names.lookup y with | some .local => true | _ => false) && (ixN? N x).isSome && (ixN? N y).isSome && (py.line == px.line) && notStar a && notStar b &&
    !([a, b].all (foldedForSure 8)) && !([a, b].all (constantsAlone 8))
def parS (N : List Str) (E : Ev) (sc : Scope) (es vs : List Expr) (ρ : Ro) : Rf := match es, vs with
  | [.Name x px, .Name y py], [a, b] => if parC N sc x px y py a b then (E.es sc [a, b] ρ).toF fun ds ρ1 => (match ds with
      | [d, e] => Rf.of ((store N sc x (.fz d) ρ1).bind fun ρ2 => store N sc y (.fz e) ρ2)
      | _ => .stuck) else .stuck
  | _, _ => .stuck
/-- what an except suite makes of the error's fields -/
def sufA (M : Mdl) (x : Str) (fs : List (Str × D)) (n : Str) : Expr → Option D
  | .Constant c _ _ => (match c with
    | .int i => some (.int i)
    | .bool b => some (.bl b)
    | .none => some .non
    | .str s => some (.str s)
    | _ => none)
  | .Attribute (.Name m _) f _ => if m = n then (if M.fok x f then fs.lookup f else none) else none
  | _ => none
def sufL (M : Mdl) (x : Str) (fs : List (Str × D)) (n : Str) : List Expr → Option (List D)
  | [] => some []
  | e :: r => if notStar e then (sufA M x fs n e).bind fun d => (sufL M x fs n r).map (d :: ·) else none
def sufE (M : Mdl) (x : Str) (fs : List (Str × D)) (n : Str) (e : Expr) : Option D := match e with
  | .Tuple es _ _ => (sufL M x fs n es).bind fun ds => if szOk ds.length then some (.tup ds) else none
  | .List es _ => (sufL M x fs n es).bind fun ds => if szOk ds.length then some (.lst ds) else none
  | e => sufA M x fs n e
def sufS (M : Mdl) (N : List Str) (sc : Scope) (x : Str) (fs : List (Str × D)) (n : Str) (st : Stmt) (ρ : Ro) : Rf := match st with
  | .Pass _ => .next ρ
  | .Return none _ => .ret (.va .non false) ρ
  | .Return (some e) _ => (match sufE M x fs n e with
    | some d => .ret (.va d false) ρ
    | none => .stuck)
  | .Assign [.Name y _] e _ => if decide (y ≠ n) && !isComp e then (match sufE M x fs n e with
    | some d => Rf.of (store N sc y (.fz d) ρ)
    | none => .stuck) else .stuck
  | _ => .stuck
def stepS (E : Ev) (sc : Scope) (st : Stmt) (ρ : Ro) : Rf := match st with
  | .Assign [tg] v _ => (match tg with
    | .Name x _ => if (ixN? N x).isSome && locK sc x then (match v with
      | .ListComp elt [⟨tg, it, ifs, 0⟩] scope _ => (compS M N E sc elt tg it ifs scope ρ).toF fun b ρ1 => putB N sc x b ρ1
      | v => if isComp v then .stuck else (E.e sc v ρ).toF fun b ρ1 => putB N sc x b ρ1) else .stuck
    | .Tuple es _ _ => (match v with
      | .Tuple vs _ _ => parS N E sc es vs ρ
      | v => if es.all (nmOk N sc) && !isComp v then (E.e sc v ρ).toF fun b ρ1 => (whole b ρ1).toF fun d ρ2 => Rf.of (asgT N sc tg d ρ2) else .stuck)
    | .Subscript o ix _ => if isComp v || isSlice ix then .stuck else (E.e sc v ρ).toF fun b ρ1 => (whole b ρ1).toF fun d ρ2 => (E.e sc o ρ2).toF fun t ρ3 => (match t with
      | .at i => (E.e sc ix ρ3).toF fun j ρ4 => (match deref ρ4 j, ρ4[i]? with
        | some (.int k), some (.ow md (.lst xs)) => (match ixN xs.length k with
          | some n => if md ≠ .lck then .next (ρ4.set i (.ow md (.lst (xs.set n d)))) else .stuck
          | none => .stuck)
        | _, _ => .stuck)
      | _ => .stuck)
    | _ => .stuck)
  | .AugAssign (.Name x _) op v _ => if locK sc x && isAS op then (match ixN? N x with
    | none => .stuck
    | some i => (match ρ[i]? with
      | some (.fz (.int a)) => (E.e sc v ρ).toF fun b ρ1 => (match deref ρ1 b with
        | some (.int k) => (match op with
          | .Add => Rf.of (store N sc x (.fz (.int (a + k))) ρ1)
          | .Sub => Rf.of (store N sc x (.fz (.int (a - k))) ρ1)
          | _ => .stuck)
        | _ => .stuck)
      | _ => .stuck)) else .stuck
  | .Expr e _ => (match e with
    | .Constant (.str _) _ _ => .next ρ
    | _ => if isComp e then .stuck else (E.e sc e ρ).toF fun _ ρ1 => .next ρ1)
  | .Pass _ => .next ρ
  | .Break _ => .brk ρ
  | .Continue _ => .cnt ρ
  | .Return none _ => .ret (.va .non false) ρ
  | .Return (some e) _ => (E.e sc e ρ).toF fun b ρ1 => .ret b ρ1
  | .If c a b _ => (E.t sc c ρ).toF fun k ρ1 => if k then E.ss sc a ρ1 else E.ss sc b ρ1
  | .For tg it body [] _ => if tgOk N sc tg && !isSetE it then (iterS M E sc tg it ρ).toF fun w ρ1 => (loopF (asgT N sc tg) (E.ss sc body) w.1 (lockAll w.2 ρ1)).map (unlockAll w.2) else .stuck
  | .While c body [] _ => loopW (E.t sc c) (E.ss sc body) 1000000 ρ
  | .Raise (some (.Call (.Name x _) (a :: r) [] _)) none _ => if gloK sc x && (a :: r).all notStar then (match M.glob x with
      | .ex => (E.es sc (a :: r) ρ).toF fun ds ρ1 => (match M.mkx x ds with
        | some fs => .exc x fs ρ1
        | none => .stuck)
      | _ => .stuck) else .stuck
  | .Try body [.ExceptHandler (some (.Name c _)) (some n) [st] _] [] [] _ => (match ixN? N n with
    | none => .stuck
    | some i => if (match sc.names.lookup n with | some .local => true | _ => false) && nameOk n && (gloK sc c && (match M.glob c with | .ex => true | _ => false)) then (match E.ss sc body ρ with
      | .exc x fs ρ1 => (match M.isx x c with
        | some false => .exc x fs ρ1
        | some true => if flatSl ρ1[i]? then sufS M N sc x fs n st (ρ1.set i .un) else .stuck
        | none => .stuck)
      | r => r) else .stuck)
  | _ => .stuck
def stepSs (E : Ev) (sc : Scope) (ss : List Stmt) (ρ : Ro) : Rf := match ss with
  | [] => .next ρ
  | s :: r => (match E.s sc s ρ with
    | .next ρ1 => E.ss sc r ρ1
    | q => q)
def step (E : Ev) : Ev := ⟨stepE M N E, stepT M N E, stepEs E, stepAs E, stepS M N E, stepSs E⟩
def ev : Nat → Ev
  | 0 => Ev.bot
  | n + 1 => step M N (ev n)
end
end VE
end

section
set_option Elab.async false
set_option linter.all false
set_option maxRecDepth 100000
/-! VC: what the evaluator's data stand for in the layer's abstract heap. -/
namespace VE
open PySem PySem.Spec L2

mutual
inductive Is (K : PySem.W.Frag) (G : Hp) : V → D → Prop
  | non : Is K G .non .non
  | bl (b : Bool) : Is K G (.bl b) (.bl b)
  | int (i : Int) : Is K G (.int i) (.int i)
  | str (s : Str) : Is K G (.str s) (.str s)
  | tup {a : Addr} {xs : List V} {ds : List D} (h : SqT K G a xs) (r : IsL K G xs ds) : Is K G (.ref a) (.tup ds)
  | lst {a : Addr} {xs : List V} {ds : List D} (h : G a = some (.lst xs)) (r : IsL K G xs ds) : Is K G (.ref a) (.lst ds)
  | scr {a : Addr} {xs : List V} {ds : List D} (h : SqL K G a xs) (r : IsL K G xs ds) : Is K G (.ref a) (.scr ds)
inductive IsL (K : PySem.W.Frag) (G : Hp) : List V → List D → Prop
  | nil : IsL K G [] []
  | cons {v : V} {vs : List V} {d : D} {ds : List D} (h : Is K G v d) (r : IsL K G vs ds) : IsL K G (v :: vs) (d :: ds)
end
theorem rd_mono {H H' : Hp} {a : Addr} {u : HO} (e : Same H H') (h : Rd H a u) : Rd H' a u := by
  rcases h with h | ⟨o, h⟩
  · exact .inl (e a _ h)
  · exact .inr ⟨o, e a _ h⟩
theorem sqL_mono {K : PySem.W.Frag} {H H' : Hp} {a : Addr} {xs : List V} (e : Same H H') (h : SqL K H a xs) : SqL K H' a xs := by
  rcases h with h | h
  · exact .inl (rd_mono e h)
  · exact .inr h
theorem sqT_mono {K : PySem.W.Frag} {H H' : Hp} {a : Addr} {xs : List V} (e : Same H H') (h : SqT K H a xs) : SqT K H' a xs := by
  rcases h with h | h
  · exact .inl (rd_mono e h)
  · exact .inr h
section
variable {K : PySem.W.Frag} {G H G' H' : Hp}
mutual
theorem Is.mono (e : Same G H) : ∀ {d : D} {v : V}, Is K G v d → Is K H v d
  | .non, _, .non => .non
  | .bl _, _, .bl b => .bl b
  | .int _, _, .int i => .int i
  | .str _, _, .str s => .str s
  | .tup _, _, .tup h r => .tup (sqT_mono e h) (IsL.mono e r)
  | .lst _, _, .lst h r => .lst (e _ _ h) (IsL.mono e r)
  | .scr _, _, .scr h r => .scr (sqL_mono e h) (IsL.mono e r)
theorem IsL.mono (e : Same G H) : ∀ {ds : List D} {vs : List V}, IsL K G vs ds → IsL K H vs ds
  | [], _, .nil => .nil
  | _ :: _, _, .cons h r => .cons (Is.mono e h) (IsL.mono e r)
end
theorem IsL.length : ∀ {vs : List V} {ds : List D}, IsL K G vs ds → vs.length = ds.length
  | _, _, .nil => rfl
  | _, _, .cons _ r => congrArg Nat.succ (IsL.length r)
theorem IsL.get : ∀ {vs : List V} {ds : List D} {i : Nat} {d : D}, IsL K G vs ds → ds[i]? = some d → ∃ v, vs[i]? = some v ∧ Is K G v d
  | _, _, i, d, .nil, h => by simp at h
  | _, _, 0, d, .cons h r, q => by
    have e : _ = d := Option.some.inj q
    subst e
    exact ⟨_, rfl, h⟩
  | _, _, i + 1, d, .cons h r, q => IsL.get (i := i) r q
theorem IsL.getV : ∀ {vs : List V} {ds : List D} {i : Nat} {v : V}, IsL K G vs ds → vs[i]? = some v → ∃ d, ds[i]? = some d ∧ Is K G v d
  | _, _, i, d, .nil, h => by simp at h
  | _, _, 0, v, .cons h r, q => by
    have e : _ = v := Option.some.inj q
    subst e
    exact ⟨_, rfl, h⟩
  | _, _, i + 1, v, .cons h r, q => IsL.getV (i := i) r q
theorem IsL.append : ∀ {vs ws : List V} {ds es : List D}, IsL K G vs ds → IsL K G ws es → IsL K G (vs ++ ws) (ds ++ es)
  | _, _, _, _, .nil, s => s
  | _, _, _, _, .cons h r, s => .cons h (IsL.append r s)
theorem IsL.one {v : V} {d : D} (h : Is K G v d) : IsL K G [v] [d] := .cons h .nil
theorem IsL.take : ∀ {vs : List V} {ds : List D} (n : Nat), IsL K G vs ds → IsL K G (vs.take n) (ds.take n)
  | _, _, 0, _ => by simpa using IsL.nil
  | _, _, _ + 1, .nil => .nil
  | _, _, n + 1, .cons h r => .cons h (IsL.take n r)
theorem IsL.drop : ∀ {vs : List V} {ds : List D} (n : Nat), IsL K G vs ds → IsL K G (vs.drop n) (ds.drop n)
  | _, _, 0, r => r
  | _, _, _ + 1, .nil => .nil
  | _, _, n + 1, .cons _ r => IsL.drop n r
theorem IsL.set {v : V} {d : D} (h : Is K G v d) : ∀ {vs : List V} {ds : List D} (n : Nat), IsL K G vs ds → IsL K G (vs.set n v) (ds.set n d)
  | _, _, _, .nil => .nil
  | _, _, 0, .cons _ r => .cons h r
  | _, _, n + 1, .cons q r => .cons q (IsL.set h n r)
theorem IsL.rep : ∀ (k : Nat) {vs : List V} {ds : List D}, IsL K G vs ds → IsL K G (List.replicate k vs).flatten (List.replicate k ds).flatten
  | 0, _, _, _ => by simpa using IsL.nil
  | k + 1, _, _, r => by
    rw [List.replicate_succ, List.replicate_succ, List.flatten_cons, List.flatten_cons]
    exact r.append (IsL.rep k r)
theorem IsL.atI {vs : List V} {ds : List D} {i : Int} {d : D} (r : IsL K G vs ds) (h : L2.atI ds i = some d) : ∃ v, L2.atI vs i = some v ∧ Is K G v d := by
  unfold L2.atI at h ⊢
  rw [r.length]
  cases e : ixN ds.length i with
  | none =>
    rw [e] at h
    cases h
  | some j =>
    rw [e] at h
    exact r.get h
theorem IsL.cut {vs : List V} {ds : List D} (r : IsL K G vs ds) (lo hi : Option Int) : IsL K G (cutV vs lo hi) (cutX ds lo hi) := by
  unfold cutV cutX
  rw [r.length]
  exact (r.drop _).take _
end

/-! ### plain data for == -/
section
variable {K : PySem.W.Frag} {G H : Hp}
mutual
theorem Is.dp : ∀ {d : D} {v : V}, Is K G v d → Dp K G v (toPy d)
  | .non, _, .non => .non
  | .bl _, _, .bl b => .bl b
  | .int _, _, .int i => .int i
  | .str _, _, .str s => .str s
  | .tup _, _, .tup h r => .tup h (IsL.dp r)
  | .lst _, _, .lst h r => .lst (.inl (.inl h)) (IsL.dp r)
  | .scr _, _, .scr h r => .lst h (IsL.dp r)
theorem IsL.dp : ∀ {ds : List D} {vs : List V}, IsL K G vs ds → DpAll K G vs (toPys ds)
  | [], _, .nil => .nil
  | _ :: _, _, .cons h r => .cons (Is.dp h) (IsL.dp r)
end
end
mutual
theorem plain_toPy : ∀ d : D, (toPy d).plain = true
  | .non => rfl
  | .bl _ => rfl
  | .int _ => rfl
  | .str _ => rfl
  | .tup xs => by
    show PyData.plainAll (toPys xs) = true
    exact plainAll_toPys xs
  | .lst xs => by
    show PyData.plainAll (toPys xs) = true
    exact plainAll_toPys xs
  | .scr xs => by
    show PyData.plainAll (toPys xs) = true
    exact plainAll_toPys xs
  | .obj _ _ => rfl
theorem plainAll_toPys : ∀ ds : List D, PyData.plainAll (toPys ds) = true
  | [] => rfl
  | x :: xs => by
    show ((toPy x).plain && PyData.plainAll (toPys xs)) = true
    rw [plain_toPy x, plainAll_toPys xs]
    rfl
end

/-! ### slots -/
/-- a list of one's own: not among the fixed things -/
def Cell (K : PySem.W.Frag) (G H : Hp) (a : Addr) (d : D) : Prop := G a = none ∧ ∃ xs ds, d = .lst ds ∧ H a = some (.lst xs) ∧ IsL K G xs ds
def SlOk (K : PySem.W.Frag) (G H : Hp) (o : Option (Option V)) : Sl → Prop
  | .un => o = some none
  | .fz d => ∃ v, o = some (some v) ∧ Is K G v d
  | .pz d => ∃ a xs ds, o = some (some (.ref a)) ∧ d = .lst ds ∧ G a = some (.lst xs) ∧ IsL K G xs ds
  | .ow _ d => ∃ a, o = some (some (.ref a)) ∧ Cell K G H a d
/-- slot i holds a list of its own, at a -/
def OwAt (σ : L2.St) (ρ : Ro) (i : Nat) (a : Addr) : Prop := ∃ m d, ρ[i]? = some (.ow m d) ∧ σ[i]? = some (some (.ref a))
/-- the lists that may be changed -/
def Mo (σ : L2.St) (ρ : Ro) (a : Addr) : Prop := ∃ (i : Nat) (m : Md) (d : D), m ≠ Md.lck ∧ ρ[i]? = some (.ow m d) ∧ σ[i]? = some (some (.ref a))
structure Rep (K : PySem.W.Frag) (G H : Hp) (σ : L2.St) (ρ : Ro) : Prop where
  ex : Same G H
  len : σ.length = ρ.length
  sl : ∀ (i : Nat) (s : Sl), ρ[i]? = some s → SlOk K G H σ[i]? s
  dj : ∀ (i j : Nat) (a : Addr), OwAt σ ρ i a → OwAt σ ρ j a → i = j
/-- what becomes of a slot that must not be stored to -/
def PinTo : Sl → Sl → Prop
  | .ow .par _, s => (∃ d, s = .ow .par d) ∨ ∃ d, s = .pz d
  | .ow .lck d, s => s = .ow .lck d
  | .pz d, s => s = .pz d
  | _, _ => True
def pinned : Sl → Bool
  | .ow .par _ => true
  | .ow .lck _ => true
  | .pz _ => true
  | _ => false
theorem PinTo.refl (s : Sl) : PinTo s s := by
  cases s with
  | ow m d =>
    cases m with
    | own => trivial
    | par => exact .inl ⟨d, rfl⟩
    | lck => rfl
  | pz d => rfl
  | _ => trivial
theorem PinTo.pin {s t : Sl} (h : PinTo s t) (p : pinned s = true) : pinned t = true := by
  cases s with
  | ow m d =>
    cases m with
    | own => cases p
    | par =>
      rcases h with ⟨e, h⟩ | ⟨e, h⟩
      · rw [h]; rfl
      · rw [h]; rfl
    | lck =>
      have h' : t = .ow .lck d := h
      rw [h']; rfl
  | pz d =>
    have h' : t = .pz d := h
    rw [h']; rfl
  | un => cases p
  | fz d => cases p
theorem PinTo.trans {s t u : Sl} (h : PinTo s t) (q : PinTo t u) : PinTo s u := by
  cases s with
  | ow m d =>
    cases m with
    | own => trivial
    | par =>
      rcases h with ⟨e, h⟩ | ⟨e, h⟩
      · subst h; exact q
      · subst h
        have q' : u = .pz e := q
        exact .inr ⟨e, q'⟩
    | lck =>
      have h' : t = .ow .lck d := h
      subst h'
      exact q
  | pz d =>
    have h' : t = .pz d := h
    subst h'
    exact q
  | un => trivial
  | fz d => trivial
/-- from one state to a later one -/
structure Go (σ : L2.St) (ρ : Ro) (G H : Hp) (σ' : L2.St) (ρ' : Ro) (G' H' : Hp) : Prop where
  g : Same G G'
  keep : ∀ a o, H a = some o → ¬ Mo σ ρ a → H' a = some o
  fr : ∀ a o, H a = some o → G a = none → ¬ Mo σ ρ a → G' a = none
  own : ∀ a, Mo σ' ρ' a → Mo σ ρ a ∨ H a = none
  pin : ∀ (j : Nat) (s : Sl), ρ[j]? = some s → pinned s = true → σ'[j]? = σ[j]? ∧ ∃ s', ρ'[j]? = some s' ∧ PinTo s s'
  there : ∀ a, H' a = none → H a = none
section
variable {σ σ' σ'' : L2.St} {ρ ρ' ρ'' : Ro} {K : PySem.W.Frag} {G H G' H' G'' H'' : Hp}
theorem Go.refl : Go σ ρ G H σ ρ G H := ⟨Same.refl _, fun _ _ h _ => h, fun _ _ _ h _ => h, fun _ h => .inl h, fun _ s e _ => ⟨rfl, s, e, PinTo.refl s⟩, fun _ h => h⟩
theorem Go.trans (a : Go σ ρ G H σ' ρ' G' H') (b : Go σ' ρ' G' H' σ'' ρ'' G'' H'') : Go σ ρ G H σ'' ρ'' G'' H'' where
  g := a.g.trans b.g
  keep := fun x o h n => b.keep x o (a.keep x o h n) fun m => (a.own x m).elim n fun z => by rw [h] at z; cases z
  fr := fun x o h g n => b.fr x o (a.keep x o h n) (a.fr x o h g n) fun m => (a.own x m).elim n fun z => by rw [h] at z; cases z
  own := fun x m => (b.own x m).elim (a.own x) fun z => .inr (a.there x z)
  pin := fun j s e p => by
    obtain ⟨e1, s1, e2, p1⟩ := a.pin j s e p
    obtain ⟨e3, s2, e4, p2⟩ := b.pin j s1 e2 (p1.pin p)
    exact ⟨e3.trans e1, s2, e4, p1.trans p2⟩
  there := fun x h => a.there x (b.there x h)
/-- expressions: no slot comes to a list of its own -/
def isOw : Sl → Bool
  | .ow _ _ => true
  | _ => false
structure Evo (ρ ρ' : Ro) : Prop where
  len : ρ'.length = ρ.length
  ow : ∀ (i : Nat) (m : Md) (d' : D), ρ'[i]? = some (.ow m d') → ∃ d, ρ[i]? = some (.ow m d)
  stay : ∀ (i : Nat) (s : Sl), ρ[i]? = some s → isOw s = false → ρ'[i]? = some s
theorem Evo.refl (ρ : Ro) : Evo ρ ρ := ⟨rfl, fun _ _ d h => ⟨d, h⟩, fun _ _ h _ => h⟩
theorem Evo.trans {ρ ρ' ρ'' : Ro} (a : Evo ρ ρ') (b : Evo ρ' ρ'') : Evo ρ ρ'' := ⟨b.1.trans a.1, fun i m d h => by
  obtain ⟨d1, h1⟩ := b.2 i m d h
  exact a.2 i m d1 h1, fun i s h n => b.stay i s (a.stay i s h n) n⟩
/-- a value that an expression gave -/
def Den (K : PySem.W.Frag) (G H : Hp) (σ : L2.St) (ρ : Ro) (v : V) : Bv → Prop
  | .at i => σ[i]? = some (some v)
  | .va d false => Is K G v d
  | .va d true => ∃ a, v = .ref a ∧ Cell K G H a d ∧ ∀ i, ¬ OwAt σ ρ i a
theorem mo_ow {a : Addr} (h : Mo σ ρ a) : ∃ i, OwAt σ ρ i a := let ⟨i, m, d, _, h1, h2⟩ := h; ⟨i, m, d, h1, h2⟩
theorem OwAt.evo {i : Nat} {a : Addr} (e : Evo ρ ρ') (h : OwAt σ ρ' i a) : OwAt σ ρ i a := by
  obtain ⟨m, d, h1, h2⟩ := h
  obtain ⟨d', h3⟩ := e.2 i m d h1
  exact ⟨m, d', h3, h2⟩
theorem Cell.keep {a : Addr} {d : D} (c : Cell K G H a d) (g : Go σ ρ G H σ' ρ' G' H') (n : ¬ Mo σ ρ a) : Cell K G' H' a d := by
  obtain ⟨c1, xs, ds, c2, c3, c4⟩ := c
  exact ⟨g.fr a _ c3 c1 n, xs, ds, c2, g.keep a _ c3 n, c4.mono g.g⟩
theorem Den.go {v : V} {b : Bv} (h : Den K G H σ ρ v b) (g : Go σ ρ G H σ ρ' G' H') (e : Evo ρ ρ') : Den K G' H' σ ρ' v b := by
  cases b with
  | «at» i => exact h
  | va d f =>
    cases f with
    | false => exact Is.mono g.g h
    | true =>
      obtain ⟨a, rfl, c, n⟩ := h
      exact ⟨a, rfl, c.keep g (fun m => let ⟨i, q⟩ := mo_ow m; n i q), fun i q => n i (q.evo e)⟩
/-- what may be read of a value -/
def At (K : PySem.W.Frag) (G H : Hp) (v : V) (d : D) : Prop := Is K G v d ∨ ∃ a, v = .ref a ∧ Cell K G H a d
theorem Den.deref {v : V} {b : Bv} {d : D} (R : Rep K G H σ ρ) (h : Den K G H σ ρ v b) (e : deref ρ b = some d) : At K G H v d := by
  cases b with
  | «at» i =>
    have e' : getSl ρ i = some d := e
    unfold getSl at e'
    have hv : σ[i]? = some (some v) := h
    cases q : ρ[i]? with
    | none => rw [q] at e'; cases e'
    | some s =>
      rw [q] at e'
      have z := R.sl i s q
      rw [hv] at z
      cases s with
      | un => cases e'
      | fz d' =>
        have ed : d' = d := Option.some.inj e'
        subst ed
        obtain ⟨v', e1, e2⟩ := z
        cases e1
        exact .inl e2
      | pz d' =>
        have ed : d' = d := Option.some.inj e'
        subst ed
        obtain ⟨a, xs, ds, e1, e2, e3, e4⟩ := z
        cases e1
        subst e2
        exact .inl (.lst e3 e4)
      | ow m d' =>
        have ed : d' = d := Option.some.inj e'
        subst ed
        obtain ⟨a, e1, c⟩ := z
        cases e1
        exact .inr ⟨a, rfl, c⟩
  | va d' f =>
    have ed : d' = d := Option.some.inj e
    subst ed
    cases f with
    | false => exact .inl h
    | true =>
      obtain ⟨a, rfl, c, _⟩ := h
      exact .inr ⟨a, rfl, c⟩
/-! what a readable value is, by its data -/
theorem At.non {v : V} (h : At K G H v .non) : v = .non := by
  rcases h with h | ⟨a, _, _, xs, ds, e, _⟩
  · cases h; rfl
  · cases e
theorem At.bl {v : V} {b : Bool} (h : At K G H v (.bl b)) : v = .bl b := by
  rcases h with h | ⟨a, _, _, xs, ds, e, _⟩
  · cases h; rfl
  · cases e
theorem At.int {v : V} {i : Int} (h : At K G H v (.int i)) : v = .int i := by
  rcases h with h | ⟨a, _, _, xs, ds, e, _⟩
  · cases h; rfl
  · cases e
theorem At.str {v : V} {s : Str} (h : At K G H v (.str s)) : v = .str s := by
  rcases h with h | ⟨a, _, _, xs, ds, e, _⟩
  · cases h; rfl
  · cases e
theorem At.tup {v : V} {ds : List D} (ex : Same G H) (h : At K G H v (.tup ds)) : ∃ a xs, v = .ref a ∧ SqT K H a xs ∧ IsL K G xs ds := by
  rcases h with h | ⟨a, _, _, xs, ds, e, _⟩
  · cases h with
    | tup h r => exact ⟨_, _, rfl, sqT_mono ex h, r⟩
  · cases e
theorem At.isTup {v : V} {ds : List D} (h : At K G H v (.tup ds)) : Is K G v (.tup ds) := by
  rcases h with h | ⟨a, _, _, xs, ds, e, _⟩
  · exact h
  · cases e
theorem At.lst {v : V} {ds : List D} (ex : Same G H) (h : At K G H v (.lst ds)) : ∃ a xs, v = .ref a ∧ H a = some (.lst xs) ∧ IsL K G xs ds := by
  rcases h with h | ⟨a, rfl, _, xs, ds', e, hh, r⟩
  · cases h with
    | lst h r => exact ⟨_, _, rfl, ex _ _ h, r⟩
  · cases e
    exact ⟨a, xs, rfl, hh, r⟩
theorem At.scr {v : V} {ds : List D} (ex : Same G H) (h : At K G H v (.scr ds)) : ∃ a xs, v = .ref a ∧ SqL K H a xs ∧ IsL K G xs ds := by
  rcases h with h | ⟨a, _, _, xs, ds, e, _⟩
  · cases h with
    | scr h r => exact ⟨_, _, rfl, sqL_mono ex h, r⟩
  · cases e
theorem At.dp {v : V} {d : D} (ex : Same G H) (h : At K G H v d) : Dp K H v (toPy d) := by
  rcases h with h | ⟨a, rfl, _, xs, ds, rfl, hh, r⟩
  · exact (h.mono ex).dp
  · exact .lst (.inl (.inl hh)) ((r.mono ex).dp)
end
end VE
end

section
set_option Elab.async false
set_option linter.all false
set_option maxRecDepth 100000
/-! VD: what is to be shown of the evaluator; its first lemmas. -/
namespace VE
open PySem PySem.Spec L2

/-! ### the layer's judgements, by what they let show -/
def WE (X : Cx) (e : Expr) (σ : L2.St) (H : Hp) (Q : VK) : Prop := ∃ t, PE X e t ∧ t σ H Q
def WT (X : Cx) (e : Expr) (σ : L2.St) (H : Hp) (Q : Bool → Hp → Prop) : Prop := ∃ t, PT X e t ∧ t σ H Q
def WA (X : Cx) (es : List Expr) (σ : L2.St) (H : Hp) (Q : List V → Hp → Prop) : Prop := ∃ t, PA X es t ∧ t σ H Q
def WS (X : Cx) (st : Stmt) (D : Ends) (σ : L2.St) (H : Hp) : Prop := ∃ t, PS X st t ∧ t D σ H
def WSs (X : Cx) (st : List Stmt) (D : Ends) (σ : L2.St) (H : Hp) : Prop := ∃ t, PSs X st t ∧ t D σ H
section
variable {X : Cx}
theorem pe_we {e : Expr} : PE X e (WE X e) := ⟨fun pins s σ H Q I ⟨_, ht, h⟩ => ht.run pins s σ H Q I h⟩
theorem pt_wt {e : Expr} : PT X e (WT X e) := ⟨fun pins s σ H Q I ⟨_, ht, h⟩ => ht.run pins s σ H Q I h⟩
theorem pa_wa {es : List Expr} : PA X es (WA X es) := ⟨fun pos pins s σ H Q I ⟨_, ht, h⟩ => ht.run pos pins s σ H Q I h⟩
theorem ps_ws {st : Stmt} : PS X st (WS X st) := ⟨fun pins s σ H D I ⟨_, ht, h⟩ => ht.run pins s σ H D I h⟩
theorem pss_wss {st : List Stmt} : PSs X st (WSs X st) := ⟨fun pins s σ H D I ⟨_, ht, h⟩ => ht.run pins s σ H D I h⟩
theorem WE.mk {e : Expr} {t : TE} {σ : L2.St} {H : Hp} {Q : VK} (h : PE X e t) (q : t σ H Q) : WE X e σ H Q := ⟨t, h, q⟩
theorem WT.mk {e : Expr} {t : TT} {σ : L2.St} {H : Hp} {Q : Bool → Hp → Prop} (h : PT X e t) (q : t σ H Q) : WT X e σ H Q := ⟨t, h, q⟩
theorem WA.mk {es : List Expr} {t : TA} {σ : L2.St} {H : Hp} {Q : List V → Hp → Prop} (h : PA X es t) (q : t σ H Q) : WA X es σ H Q := ⟨t, h, q⟩
theorem WS.mk {e : Stmt} {t : TS} {σ : L2.St} {H : Hp} {D : Ends} (h : PS X e t) (q : t D σ H) : WS X e D σ H := ⟨t, h, q⟩
theorem WSs.mk {e : List Stmt} {t : TS} {σ : L2.St} {H : Hp} {D : Ends} (h : PSs X e t) (q : t D σ H) : WSs X e D σ H := ⟨t, h, q⟩
end

/-! ### exceptions -/
inductive FsL (K : PySem.W.Frag) (G : Hp) : List (Str × V) → List (Str × D) → Prop
  | nil : FsL K G [] []
  | cons {x : Str} {v : V} {d : D} {vs : List (Str × V)} {ds : List (Str × D)} (h : Is K G v d) (r : FsL K G vs ds) : FsL K G ((x, v) :: vs) ((x, d) :: ds)
/-- the exception of class cls with the dict dd is one of the class c with the fields fs -/
def XIs (mg : Str → Option Value) (K : PySem.W.Frag) (G : Hp) (cls : Value) (dd : Option Addr) (c : Str) (fs : List (Str × D)) : Prop :=
  ∃ C a xs, mg c = some (.ref C) ∧ cls = .ref C ∧ dd = some a ∧ G a = some (.xd xs) ∧ FsL K G xs fs

/-! ### what an evaluation promises -/
def Post {α : Type} (mg : Str → Option Value) (K : PySem.W.Frag) (W : WX) (σ : L2.St) (ρ : Ro) (G H : Hp) (r : Rs α) (C : α → Ro → Hp → Hp → Prop) : Prop := match r with
  | .stuck => False
  | .ok a ρ' => ∀ G' H', Go σ ρ G H σ ρ' G' H' → Evo ρ ρ' → Rep K G' H' σ ρ' → C a ρ' G' H'
  | .exc c fs ρ' => ∀ cls dd G' H', Go σ ρ G H σ ρ' G' H' → Evo ρ ρ' → Rep K G' H' σ ρ' → XIs mg K G' cls dd c fs → W cls dd σ H'
def PostF (mg : Str → Option Value) (K : PySem.W.Frag) (W : WX) (σ : L2.St) (ρ : Ro) (G H : Hp) (r : Rf) (D : Ends) : Prop := match r with
  | .stuck => False
  | .next ρ' => ∀ σ' G' H', Go σ ρ G H σ' ρ' G' H' → Rep K G' H' σ' ρ' → D.nx σ' H'
  | .brk ρ' => ∀ σ' G' H', Go σ ρ G H σ' ρ' G' H' → Rep K G' H' σ' ρ' → D.bk σ' H'
  | .cnt ρ' => ∀ σ' G' H', Go σ ρ G H σ' ρ' G' H' → Rep K G' H' σ' ρ' → D.ct σ' H'
  | .ret b ρ' => ∀ v σ' G' H', Go σ ρ G H σ' ρ' G' H' → Rep K G' H' σ' ρ' → Den K G' H' σ' ρ' v b → (∀ d a, b = .va d true → v = .ref a → H a = none) → D.rt v H'
  | .exc c fs ρ' => ∀ cls dd σ' G' H', Go σ ρ G H σ' ρ' G' H' → Rep K G' H' σ' ρ' → XIs mg K G' cls dd c fs → W cls dd σ' H'
def RetOk (K : PySem.W.Frag) (H G' H' : Hp) (v : V) (d : D) : Bool → Prop
  | false => Is K G' v d
  | true => ∃ a, v = .ref a ∧ H a = none ∧ Cell K G' H' a d
def PostC (mg : Str → Option Value) (K : PySem.W.Frag) (σ : L2.St) (ρ : Ro) (G H : Hp) (r : Cr) (Q : VK) (E : XK) : Prop := match r with
  | .stuck => False
  | .ret d f as => ∀ v G' H', Go σ ρ G H σ as G' H' → Rep K G' H' σ as → RetOk K H G' H' v d f → Q v H'
  | .exc c fs as => ∀ cls dd G' H', Go σ ρ G H σ as G' H' → Rep K G' H' σ as → XIs mg K G' cls dd c fs → E cls dd H'
/-- what a function promises: the evaluator's answer -/
def spF (mg : Str → Option Value) (K : PySem.W.Frag) (M : Mdl) (x : Str) (np : Nat) : Sp := fun vs H Q E => ∃ G sls, vs.length = np ∧ Rep K G H (vs.map some) sls ∧ PostC mg K (vs.map some) sls G H (M.call x sls) Q E

/-- a class of one's own whose calls make exceptions with these fields -/
def MkX (M : Mdl) (k : Nat) (P : Program) (w : World) (K : PySem.W.Frag) (mg : Str → Option Value) (base : Heap) (x : Str) (C : Addr) : Prop :=
  ∃ (fI : Addr) (fd : FuncData) (ps : List Str) (sp : Sp) (j : Nat), OexC K C ∧ PySem.W.findIn K (.ref C) "__init__" = some (some (.ref fI)) ∧ PySem.W.typeIn K (.ref fI) = some (.type "function") ∧
    FnOk P w K mg base (L2.CX P w) j fI fd ps sp ∧ L2.Binds K fd ps [] ∧ j + 1 ≤ k ∧ ∀ ds fs, M.mkx x ds = some fs → ds.length ≤ 1000 ∧ ∀ (G H : Hp) (vs : List V) (a : Addr) (Q : VK) (E : XK), IsL K G vs ds → H a = some (exo a C none) →
      (∀ (d : Addr) (fsV : List (Str × V)) (H2 : Hp), H d = none → d ≠ a → FsL K G fsV fs → H2 a = some (exo a C (some d)) → H2 d = some (exd d fsV) → (∀ b, b ≠ a → b ≠ d → H2 b = H b) → Q .non H2) → sp (.ref a :: vs) H Q E
/-- a call with keywords binds by its plan -/
def KwOk (K : PySem.W.Frag) (fd : FuncData) (ps : List Str) (n : Nat) (ks : List Str) (pl : List KwSrc) (dfs : List D) : Prop := ∃ g gV, KBn K fd ps n ks g gV ∧ ∀ (G : Hp) (vs zs : List V) (ds es : List D), IsL K G vs ds → IsL K G zs es → vs.length = n → zs.length = ks.length → IsL K G (gV vs zs) (planL .non ds dfs es pl)
structure MdOk (M : Mdl) (k : Nat) (P : Program) (w : World) (K : PySem.W.Frag) (mg : Str → Option Value) (base : Heap) : Prop where
  con : ∀ x d, M.glob x = .con d → ∃ u v, mg x = some u ∧ RelV v u ∧ ∀ G, Is K G v d
  free : ∀ x, M.glob x = .free → mg x = none
  bfn : ∀ x id, M.glob x = .bfn id → mg x = some (.builtin id)
  fn : ∀ x, M.glob x = .fn → ∃ f fd ps, mg x = some (.ref f) ∧ PySem.W.keepIn K (.ref f) = true ∧ FnOk P w K mg base (L2.CX P w) k f fd ps (spF mg K M x ps.length) ∧ (∀ sls, M.call x sls ≠ .stuck → sls.length = ps.length) ∧
    (∀ n ds, M.dfl x n = some ds → ∃ us vs, L2.Binds K fd ps us ∧ Vals vs us ∧ ∀ G, IsL K G vs ds) ∧ ∀ n ks pl dfs, M.kwp x n ks = some (pl, dfs) → KwOk K fd ps n ks pl dfs
  ex : ∀ x, M.glob x = .ex → ∃ C, mg x = some (.ref C) ∧ MkX M k P w K mg base x C
  isx : ∀ x y b, M.isx x y = some b → ∃ C D, mg x = some (.ref C) ∧ mg y = some (.ref D) ∧ PySem.W.exmOne K (.ref C) (.ref D) = some b
  fld : ∀ x f, M.fok x f = true → ∃ C, mg x = some (.ref C) ∧ XfC K C ∧ PySem.W.findIn K (.ref C) f = some none
structure XOk (M : Mdl) (N : List Str) (sc : Scope) (k : Nat) (X : Cx) (W : WX) : Prop where
  nm : X.N = N
  nd : N.Nodup
  rel : ∀ x, X.env.scope.names.lookup x = sc.names.lookup x ∨ (sc.names.lookup x = some .free ∧ X.env.scope.names.lookup x = some .cell)
  fn : ∀ x, sc.names.lookup x = some .cell → X.fn x = true
  kind : X.env.scope.kind = .function
  calm : X.calm = true
  room : Room k X.A
  tk : Takes X W
  hp : PassesOwn (model X.prog X.w) X.A X.env X.xe
  md : MdOk M k X.prog X.w X.K X.mg X.base
/-- an argument list's values -/
inductive DenA (K : PySem.W.Frag) (G : Hp) (σ : L2.St) : List V → List Bv → Prop
  | nil : DenA K G σ [] []
  | «at» {v : V} {i : Nat} {vs : List V} {bs : List Bv} (h : σ[i]? = some (some v)) (r : DenA K G σ vs bs) : DenA K G σ (v :: vs) (.at i :: bs)
  | va {v : V} {d : D} {vs : List V} {bs : List Bv} (h : Is K G v d) (r : DenA K G σ vs bs) : DenA K G σ (v :: vs) (.va d false :: bs)
def Out (K : PySem.W.Frag) (H G' H' : Hp) (σ : L2.St) (ρ' : Ro) (v : V) (b : Bv) : Prop := Den K G' H' σ ρ' v b ∧ ∀ d a, b = .va d true → v = .ref a → H a = none
/-- a def's own frame is on top -/
def Frm (X : Cx) : Prop := X.stack = X.env :: X.outer ∧ X.env.frame = some X.env.locals
structure Snd (M : Mdl) (N : List Str) (E : Ev) : Prop where
  e : ∀ {k : Nat} {sc : Scope} {X : Cx} {W : WX} {σ : L2.St} {ρ : Ro} {G H : Hp} {e : Expr} {Q : VK}, XOk M N sc k X W → Rep X.K G H σ ρ →
    Post X.mg X.K W σ ρ G H (E.e sc e ρ) (fun b ρ' G' H' => ∀ v, Out X.K H G' H' σ ρ' v b → Q v H') → WE X e σ H Q
  t : ∀ {k : Nat} {sc : Scope} {X : Cx} {W : WX} {σ : L2.St} {ρ : Ro} {G H : Hp} {e : Expr} {Q : Bool → Hp → Prop}, XOk M N sc k X W → Rep X.K G H σ ρ →
    Post X.mg X.K W σ ρ G H (E.t sc e ρ) (fun b _ _ H' => Q b H') → WT X e σ H Q
  es : ∀ {k : Nat} {sc : Scope} {X : Cx} {W : WX} {σ : L2.St} {ρ : Ro} {G H : Hp} {es : List Expr} {Q : List V → Hp → Prop}, XOk M N sc k X W → Rep X.K G H σ ρ →
    Post X.mg X.K W σ ρ G H (E.es sc es ρ) (fun ds _ G' H' => ∀ vs, IsL X.K G' vs ds → Q vs H') → WA X es σ H Q
  as : ∀ {k : Nat} {sc : Scope} {X : Cx} {W : WX} {σ : L2.St} {ρ : Ro} {G H : Hp} {es : List Expr} {Q : List V → Hp → Prop}, XOk M N sc k X W → Rep X.K G H σ ρ →
    Post X.mg X.K W σ ρ G H (E.as sc es ρ) (fun bs _ G' H' => ∀ vs, DenA X.K G' σ vs bs → Q vs H') → WA X es σ H Q
  s : ∀ {k : Nat} {sc : Scope} {X : Cx} {W : WX} {σ : L2.St} {ρ : Ro} {G H : Hp} {st : Stmt} {D : Ends}, XOk M N sc k X W → Frm X → Rep X.K G H σ ρ →
    PostF X.mg X.K W σ ρ G H (E.s sc st ρ) D → WS X st D σ H
  ss : ∀ {k : Nat} {sc : Scope} {X : Cx} {W : WX} {σ : L2.St} {ρ : Ro} {G H : Hp} {st : List Stmt} {D : Ends}, XOk M N sc k X W → Frm X → Rep X.K G H σ ρ →
    PostF X.mg X.K W σ ρ G H (E.ss sc st ρ) D → WSs X st D σ H

section
variable {α β : Type} {mg : Str → Option Value} {K : PySem.W.Frag} {W : WX} {σ : L2.St} {ρ : Ro} {G H : Hp}
theorem Post.bind {r : Rs α} {k : α → Ro → Rs β} {C : β → Ro → Hp → Hp → Prop} (h : Post mg K W σ ρ G H (r.bind k) C) :
    Post mg K W σ ρ G H r fun a ρ1 G1 H1 => Post mg K W σ ρ1 G1 H1 (k a ρ1) C := by
  cases r with
  | stuck => exact h
  | exc c fs ρ' => exact h
  | ok a ρ1 =>
    intro G1 H1 g1 e1 R1
    have h' : Post mg K W σ ρ G H (k a ρ1) C := h
    show Post mg K W σ ρ1 G1 H1 (k a ρ1) C
    cases q : k a ρ1 with
    | stuck => rw [q] at h'; exact h'
    | exc c fs ρ2 =>
      rw [q] at h'
      exact fun cls dd G2 H2 g2 e2 R2 x => h' cls dd G2 H2 (g1.trans g2) (e1.trans e2) R2 x
    | ok b ρ2 =>
      rw [q] at h'
      exact fun G2 H2 g2 e2 R2 => h' G2 H2 (g1.trans g2) (e1.trans e2) R2
theorem Post.imp {r : Rs α} {C C' : α → Ro → Hp → Hp → Prop} (h : Post mg K W σ ρ G H r C) (i : ∀ a ρ' G' H', r = .ok a ρ' → Go σ ρ G H σ ρ' G' H' → Evo ρ ρ' → Rep K G' H' σ ρ' → C a ρ' G' H' → C' a ρ' G' H') :
    Post mg K W σ ρ G H r C' := by
  cases r with
  | stuck => exact h
  | exc c fs ρ' => exact h
  | ok a ρ1 => exact fun G1 H1 g e R => i a ρ1 G1 H1 rfl g e R (h G1 H1 g e R)
/-- the rest of an evaluation that has come to its value -/
theorem Post.here {a : α} {C : α → Ro → Hp → Hp → Prop} (R : Rep K G H σ ρ) (h : Post mg K W σ ρ G H (.ok a ρ) C) : C a ρ G H := h G H Go.refl (Evo.refl ρ) R
theorem Post.of_none {a : Option α} {C : α → Ro → Hp → Hp → Prop} (h : Post mg K W σ ρ G H (Rs.of a ρ) C) : ∃ x, a = some x ∧ Post mg K W σ ρ G H (.ok x ρ) C := by
  cases a with
  | none => exact h.elim
  | some x => exact ⟨x, rfl, h⟩
theorem PostF.bind {r : Rs α} {k : α → Ro → Rf} {D : Ends} (h : PostF mg K W σ ρ G H (r.toF k) D) :
    Post mg K W σ ρ G H r fun a ρ1 G1 H1 => PostF mg K W σ ρ1 G1 H1 (k a ρ1) D := by
  cases r with
  | stuck => exact h
  | exc c fs ρ' => exact fun cls dd G' H' g _ R x => h cls dd σ G' H' g R x
  | ok a ρ1 =>
    intro G1 H1 g1 e1 R1
    have h' : PostF mg K W σ ρ G H (k a ρ1) D := h
    show PostF mg K W σ ρ1 G1 H1 (k a ρ1) D
    cases q : k a ρ1 with
    | stuck => rw [q] at h'; exact h'
    | exc c fs ρ2 => rw [q] at h'; exact fun cls dd σ2 G2 H2 g2 R2 x => h' cls dd σ2 G2 H2 (g1.trans g2) R2 x
    | next ρ2 => rw [q] at h'; exact fun σ2 G2 H2 g2 R2 => h' σ2 G2 H2 (g1.trans g2) R2
    | brk ρ2 => rw [q] at h'; exact fun σ2 G2 H2 g2 R2 => h' σ2 G2 H2 (g1.trans g2) R2
    | cnt ρ2 => rw [q] at h'; exact fun σ2 G2 H2 g2 R2 => h' σ2 G2 H2 (g1.trans g2) R2
    | ret b ρ2 => rw [q] at h'; exact fun v σ2 G2 H2 g2 R2 dn nw => h' v σ2 G2 H2 (g1.trans g2) R2 dn fun d a e1 e2 => g1.there a (nw d a e1 e2)
end

/-! ### new things -/
section
variable {K : PySem.W.Frag} {σ : L2.St} {ρ : Ro} {G H : Hp} {p : Addr} {o : HO}
theorem same_upd (h : H p = none) : Same H (upd H p o) := fun b x e => by
  rw [upd_ne (ne_of_none e h)]
  exact e
theorem Rep.gnone (R : Rep K G H σ ρ) (h : H p = none) : G p = none := R.ex.free h
theorem upd_none {a : Addr} (h : upd H p o a = none) : H a = none := by
  by_cases e : a = p
  · subst e; rw [upd_same] at h; cases h
  · rw [upd_ne e] at h; exact h
/-- a new thing, not fixed -/
theorem go_new (h : H p = none) : Go σ ρ G H σ ρ G (upd H p o) :=
  ⟨Same.refl _, fun a u e _ => same_upd h a u e, fun _ _ _ e _ => e, fun _ m => .inl m, fun _ s e _ => ⟨rfl, s, e, PinTo.refl s⟩, fun _ e => upd_none e⟩
theorem SlOk.later {G' H' : Hp} {x : Option (Option V)} {s : Sl} (h : SlOk K G H x s) (g : Same G G') (k : ∀ m a d, s = .ow m d → x = some (some (.ref a)) → Cell K G H a d → Cell K G' H' a d) : SlOk K G' H' x s := by
  cases s with
  | un => exact h
  | fz d => obtain ⟨v, e, i⟩ := h; exact ⟨v, e, i.mono g⟩
  | pz d => obtain ⟨a, xs, ds, e1, e2, e3, e4⟩ := h; exact ⟨a, xs, ds, e1, e2, g _ _ e3, e4.mono g⟩
  | ow m d => obtain ⟨a, e, c⟩ := h; exact ⟨a, e, k m a d rfl e c⟩
theorem rep_new (R : Rep K G H σ ρ) (h : H p = none) : Rep K G (upd H p o) σ ρ :=
  ⟨R.ex.trans (same_upd h), R.len, fun i s e => (R.sl i s e).later (Same.refl _) fun _ a d _ _ ⟨c1, xs, ds, c2, c3, c4⟩ => ⟨c1, xs, ds, c2, same_upd h _ _ c3, c4⟩, R.dj⟩
/-- a new thing, fixed -/
theorem go_fix (R : Rep K G H σ ρ) (h : H p = none) : Go σ ρ G H σ ρ (upd G p o) (upd H p o) :=
  ⟨same_upd (R.gnone h), fun a u e _ => same_upd h a u e, fun a u e g _ => by rw [upd_ne (ne_of_none e h)]; exact g, fun _ m => .inl m, fun _ s e _ => ⟨rfl, s, e, PinTo.refl s⟩, fun _ e => upd_none e⟩
theorem rep_fix (R : Rep K G H σ ρ) (h : H p = none) : Rep K (upd G p o) (upd H p o) σ ρ := by
  refine ⟨fun a u e => ?_, R.len, fun i s e => (R.sl i s e).later (same_upd (R.gnone h)) fun _ a d _ _ ⟨c1, xs, ds, c2, c3, c4⟩ => ⟨?_, xs, ds, c2, same_upd h _ _ c3, c4.mono (same_upd (R.gnone h))⟩, R.dj⟩
  · by_cases q : a = p
    · subst q; rw [upd_same] at e ⊢; exact e
    · rw [upd_ne q] at e ⊢; exact R.ex a u e
  · rw [upd_ne (ne_of_none c3 h)]; exact c1
theorem new_un (R : Rep K G H σ ρ) (h : H p = none) (i : Nat) : ¬ OwAt σ ρ i p := fun ⟨m, d, e1, e2⟩ => by
  obtain ⟨a, e3, _, xs, ds, _, e4, _⟩ := R.sl i _ e1
  rw [e2] at e3
  cases e3
  rw [h] at e4
  cases e4
end

/-! ### fixing a list of a slot's own -/
section
variable {mg : Str → Option Value} {K : PySem.W.Frag} {W : WX} {σ : L2.St} {ρ : Ro} {G H : Hp}
def frozen : Md → D → Sl
  | .par, d => .pz d
  | _, d => .fz d
theorem getSet {ρ : Ro} {i j : Nat} {s t : Sl} (h : (ρ.set i s)[j]? = some t) : (j = i ∧ t = s) ∨ (j ≠ i ∧ ρ[j]? = some t) := by
  by_cases e : j = i
  · subst e
    rw [List.getElem?_set_self'] at h
    cases q : ρ[j]? with
    | none => rw [q] at h; cases h
    | some u => rw [q] at h; exact .inl ⟨rfl, (Option.some.inj h).symm⟩
  · rw [List.getElem?_set_ne (Ne.symm e)] at h
    exact .inr ⟨e, h⟩
theorem getSet_self {ρ : Ro} {i : Nat} {s t : Sl} (h : ρ[i]? = some t) : (ρ.set i s)[i]? = some s := by
  rw [List.getElem?_set_self', h]
  rfl
theorem getSet_ne {ρ : Ro} {i j : Nat} {s : Sl} (h : j ≠ i) : (ρ.set i s)[j]? = ρ[j]? := List.getElem?_set_ne (Ne.symm h)
theorem evo_freeze {i : Nat} {m : Md} {d : D} (h : ρ[i]? = some (.ow m d)) : Evo ρ (ρ.set i (frozen m d)) := ⟨List.length_set, fun j m' d' h => by
  rcases getSet h with ⟨_, e⟩ | ⟨_, e⟩
  · cases m <;> cases e
  · exact ⟨d', e⟩, fun j s e n => by
  rw [getSet_ne fun z => by rw [z, h] at e; cases e; cases n]
  exact e⟩
theorem freeze (R : Rep K G H σ ρ) {i : Nat} {m : Md} {d : D} (h : ρ[i]? = some (.ow m d)) (hm : m ≠ .lck) :
    ∃ a xs ds, σ[i]? = some (some (.ref a)) ∧ d = .lst ds ∧ H a = some (.lst xs) ∧ IsL K G xs ds ∧ Go σ ρ G H σ (ρ.set i (frozen m d)) (upd G a (.lst xs)) H ∧ Rep K (upd G a (.lst xs)) H σ (ρ.set i (frozen m d)) := by
  obtain ⟨a, ea, c1, xs, ds, c2, c3, c4⟩ := R.sl i _ h
  have sg : Same G (upd G a (.lst xs)) := same_upd c1
  refine ⟨a, xs, ds, ea, c2, c3, c4, ⟨sg, fun _ _ e _ => e, fun x u e g n => ?_, fun x mo => ?_, fun j s e p => ⟨rfl, ?_⟩, fun _ e => e⟩, ?_⟩
  · rw [upd_ne fun z => n ⟨i, m, d, hm, h, by rw [z]; exact ea⟩]
    exact g
  · obtain ⟨j, m', d', n', e1, e2⟩ := mo
    rcases getSet e1 with ⟨_, e⟩ | ⟨_, e⟩
    · cases m <;> cases e
    · exact .inl ⟨j, m', d', n', e, e2⟩
  · by_cases q : j = i
    · subst q
      rw [h] at e
      cases e
      refine ⟨_, getSet_self h, ?_⟩
      cases m with
      | own => trivial
      | par => exact .inr ⟨d, rfl⟩
      | lck => exact absurd rfl hm
    · exact ⟨s, by rw [getSet_ne q]; exact e, PinTo.refl s⟩
  · refine ⟨fun x u e => ?_, R.len.trans List.length_set.symm, fun j s e => ?_, fun j l x o1 o2 => ?_⟩
    · by_cases q : x = a
      · subst q; rw [upd_same] at e; rw [← e]; exact c3
      · rw [upd_ne q] at e; exact R.ex x u e
    · rcases getSet e with ⟨rfl, e'⟩ | ⟨ne, e'⟩
      · subst e'
        cases m with
        | own => exact ⟨.ref a, ea, by rw [c2]; exact .lst upd_same (c4.mono sg)⟩
        | par => exact ⟨a, xs, ds, ea, c2, upd_same, c4.mono sg⟩
        | lck => exact absurd rfl hm
      · refine (R.sl j s e').later sg fun m' x d' es ex ⟨k1, ys, es', k2, k3, k4⟩ => ⟨?_, ys, es', k2, k3, k4.mono sg⟩
        rw [upd_ne fun z => ne (R.dj j i x ⟨m', d', by rw [e', es], ex⟩ ⟨m, d, h, by rw [z]; exact ea⟩)]
        exact k1
    · have old : ∀ j, OwAt σ (ρ.set i (frozen m d)) j x → OwAt σ ρ j x := fun j q => q.evo (evo_freeze h)
      exact R.dj j l x (old j o1) (old l o2)
end
end VE
end

section
set_option Elab.async false
set_option linter.all false
set_option maxRecDepth 100000
set_option maxHeartbeats 1000000
/-! VE1: operators, comparisons, subscripts of the evaluator are right. -/
namespace VE
open PySem PySem.Spec L2

/-! ### side conditions -/
theorem star_cons {e : Expr} {es : List Expr} {env : Env} (h : notStar e = true) : starEach (e :: es) env = (false, eval e env) :: starEach es env := by
  cases e <;> first | rfl | cases h
theorem star_none : ∀ {es : List Expr} {env : Env} {pos : Pos}, es.all notStar = true → (backTo pos (starEach es env)).any (·.1) = false
  | [], _, _, _ => rfl
  | e :: es, env, pos, h => by
    rw [List.all_cons, Bool.and_eq_true] at h
    rw [star_cons h.1]
    show (false || (backTo pos (starEach es env)).any (·.1)) = false
    rw [star_none h.2]
    rfl
theorem ix_plain {s : Expr} (h : isSlice s = false) : PlainIx s := fun o i => by
  cases s <;> first | rfl | cases h
theorem swaps_no {e : Expr} {t : Option Expr} {l : Nat} {env : Env} (h : isComp e = false) : swapsWith e t l env = pure false := by
  cases e <;> first | rfl | cases h
theorem test_plain {e : Expr} {env : Env} (h : plainTest e = true) (whole : Sem Value) : isTrue e env whole = (do let v ← whole; standAt e.pos; holding [v] (truthy v)) := by
  cases e with
  | UnaryOp op a p => cases op <;> first | rfl | cases h
  | _ => first | rfl | cases h
theorem fold_set {e : Expr} {env : Env} (h : isSetE e = false) (x : Value) : foldedSetIterable e env x = pure x := by
  cases e <;> first | rfl | cases h

/-! ### what comes of an expression -/
section
variable {mg : Str → Option Value} {K : PySem.W.Frag} {W : WX} {σ : L2.St} {ρ : Ro} {G H H0 : Hp} {Q : VK}
abbrev OutC (K : PySem.W.Frag) (σ : L2.St) (H0 : Hp) (Q : VK) : Bv → Ro → Hp → Hp → Prop := fun b ρ' G' H' => ∀ v, Out K H0 G' H' σ ρ' v b → Q v H'
theorem out_val {v : V} {d : D} (h : Post mg K W σ ρ G H (.ok (.va d false) ρ) (OutC K σ H0 Q)) (R : Rep K G H σ ρ) (i : Is K G v d) : Q v H :=
  h.here R v ⟨i, fun _ _ e _ => nomatch e⟩
theorem out_lst {p : Addr} {xs : List V} {ds : List D} (h : Post mg K W σ ρ G H (.ok (.va (.lst ds) true) ρ) (OutC K σ H0 Q)) (R : Rep K G H σ ρ) (hp : H p = none) (h0 : H0 p = none) (i : IsL K G xs ds) : Q (.ref p) (upd H p (.lst xs)) :=
  h G (upd H p (.lst xs)) (go_new hp) (Evo.refl ρ) (rep_new R hp) (.ref p) ⟨⟨p, rfl, ⟨R.gnone hp, xs, ds, rfl, upd_same, i⟩, new_un R hp⟩, fun _ a _ e => by cases e; exact h0⟩
theorem out_tup {p : Addr} {xs : List V} {ds : List D} (h : Post mg K W σ ρ G H (.ok (.va (.tup ds) false) ρ) (OutC K σ H0 Q)) (R : Rep K G H σ ρ) (hp : H p = none) (i : IsL K G xs ds) : Q (.ref p) (upd H p (.tup xs)) :=
  h (upd G p (.tup xs)) (upd H p (.tup xs)) (go_fix R hp) (Evo.refl ρ) (rep_fix R hp) (.ref p) ⟨.tup (.inl (.inl upd_same)) (i.mono (same_upd (R.gnone hp))), fun _ _ e _ => nomatch e⟩
end

/-! ### two-place operators -/
theorem binI_ok {X : Cx} {op : Operator} {i j z : Int} (h : binI op i j = some z) : ∃ r, OpR X (binaryOp op) r ∧ ∀ H Q, Q (.int z) H → r (.int i) (.int j) H Q := by
  cases op with
  | Add =>
    cases h
    exact ⟨_, op_add, fun H Q q => ⟨i, j, rfl, rfl, q⟩⟩
  | Sub =>
    cases h
    exact ⟨_, op_sub, fun H Q q => ⟨i, j, rfl, rfl, q⟩⟩
  | Mult =>
    have h' : (if mulOk i j then some (i * j) else none) = some z := h
    split at h'
    · rename_i c
      cases h'
      exact ⟨_, op_mulW, fun H Q q => ⟨i, j, rfl, rfl, (show CMulW i j from (of_decide_eq_true c : i.natAbs.log2 + j.natAbs.log2 < 1000000)), q⟩⟩
    · cases h'
  | FloorDiv =>
    have h' : (if divOk j then some (i / j) else none) = some z := h
    split at h'
    · rename_i c
      cases h'
      have c' := Bool.and_eq_true_iff.mp c
      exact ⟨_, op_fdivW, fun H Q q => ⟨i, j, rfl, rfl, ⟨of_decide_eq_true c'.1, of_decide_eq_true c'.2⟩, q⟩⟩
    · cases h'
  | Mod =>
    have h' : (if decide (0 < j) = true then some (i % j) else none) = some z := h
    split at h'
    · rename_i c
      cases h'
      exact ⟨_, op_mod, fun H Q q => ⟨i, j, rfl, rfl, of_decide_eq_true c, q⟩⟩
    · cases h'
  | Pow =>
    have h' : (if (decide (0 ≤ j) && decide (j ≤ 1000000) && decide (i.natAbs < 2 ^ 64)) = true then some (i ^ j.toNat) else none) = some z := h
    split at h'
    · rename_i c
      cases h'
      simp only [Bool.and_eq_true, decide_eq_true_eq] at c
      exact ⟨_, op_pow, fun H Q q => ⟨i, j, rfl, rfl, ⟨c.1.1, c.1.2, c.2⟩, q⟩⟩
    · cases h'
  | LShift =>
    have h' : (if (decide (0 ≤ j) && decide (j ≤ 1000000) && decide (i.natAbs < 2 ^ 64)) = true then some (i * 2 ^ j.toNat) else none) = some z := h
    split at h'
    · rename_i c
      cases h'
      simp only [Bool.and_eq_true, decide_eq_true_eq] at c
      exact ⟨_, op_shl, fun H Q q => ⟨i, j, rfl, rfl, ⟨c.1.1, c.1.2, c.2⟩, q⟩⟩
    · cases h'
  | RShift =>
    have h' : (if decide (0 ≤ j) = true then some (i / 2 ^ j.toNat) else none) = some z := h
    split at h'
    · rename_i c
      cases h'
      exact ⟨_, op_shr, fun H Q q => ⟨i, j, rfl, rfl, of_decide_eq_true c, q⟩⟩
    · cases h'
  | BitAnd =>
    cases h
    exact ⟨_, op_and, fun H Q q => ⟨i, j, rfl, rfl, q⟩⟩
  | BitOr =>
    cases h
    exact ⟨_, op_or, fun H Q q => ⟨i, j, rfl, rfl, q⟩⟩
  | _ => cases h
section
variable {X : Cx} {W : WX} {σ : L2.St} {ρ : Ro} {G H H0 : Hp} {vx vy : V} {dx dy z : D} {f : Bool}
theorem bin_ok {op : Operator} (hz : binD op dx dy = some (z, f)) (R : Rep X.K G H σ ρ) (ax : At X.K G H vx dx) (ay : At X.K G H vy dy) (th : ∀ a, H a = none → H0 a = none) :
    ∃ r : R2, OpR X (binaryOp op) r ∧ ∀ Q, Post X.mg X.K W σ ρ G H (.ok (.va z f) ρ) (OutC X.K σ H0 Q) → r vx vy H Q := by
  unfold binD at hz
  split at hz
  · rename_i i j
    cases e : binI op i j with
    | none => rw [e] at hz; cases hz
    | some w =>
      rw [e] at hz
      cases hz
      rw [ax.int, ay.int]
      obtain ⟨r, h1, h2⟩ := binI_ok (X := X) e
      exact ⟨r, h1, fun Q h => h2 H Q (out_val h R (.int w))⟩
  · rename_i xs ys
    cases op with
    | Add =>
      have hz' : (if szOk (xs.length + ys.length) then some (D.lst (xs ++ ys), true) else none) = some (z, f) := hz
      split at hz'
      · rename_i c
        cases hz'
        obtain ⟨a, us, rfl, h1, i1⟩ := ax.lst R.ex
        obtain ⟨b, ws, rfl, h2, i2⟩ := ay.lst R.ex
        exact ⟨_, op_cat, fun Q h => ⟨a, b, us, ws, rfl, rfl, h1, h2, by rw [i1.length, i2.length]; exact of_decide_eq_true c, fun p hp => out_lst h R hp (th p hp) (i1.append i2)⟩⟩
      · cases hz'
    | _ => cases hz
  · rename_i xs ys
    cases op with
    | Add =>
      have hz' : (if szOk (xs.length + ys.length) then some (D.tup (xs ++ ys), false) else none) = some (z, f) := hz
      split at hz'
      · rename_i c
        cases hz'
        obtain ⟨a, us, rfl, h1, i1⟩ := ax.tup R.ex
        obtain ⟨b, ws, rfl, h2, i2⟩ := ay.tup R.ex
        have l1 := i1.length
        have l2 := i2.length
        refine ⟨_, op_catA, fun Q h => ⟨a, b, us, ws, rfl, rfl, h1, h2, by rw [l1, l2]; exact of_decide_eq_true c, fun e => ?_, fun _ e => ?_, fun _ _ p hp => out_tup h R hp (i1.append i2)⟩⟩
        · subst e
          have e2 : xs = [] := List.length_eq_zero_iff.mp l1.symm
          subst e2
          exact out_val h R ay.isTup
        · subst e
          have e2 : ys = [] := List.length_eq_zero_iff.mp l2.symm
          subst e2
          rw [List.append_nil] at h
          exact out_val h R ax.isTup
      · cases hz'
    | _ => cases hz
  · rename_i x y
    cases op with
    | Add =>
      have hz' : (if szOk (x.length + y.length) then some (D.str (x ++ y), false) else none) = some (z, f) := hz
      split at hz'
      · rename_i c
        cases hz'
        rw [ax.str, ay.str]
        exact ⟨_, op_add_str, fun Q h => ⟨x, y, rfl, rfl, of_decide_eq_true c, out_val h R (.str _)⟩⟩
      · cases hz'
    | _ => cases hz
  · rename_i xs k
    cases op with
    | Mult =>
      have hz' : (if (szOk (xs.length * k.toNat) && decide (-(2 ^ 63) ≤ k) && decide (k < 2 ^ 63)) = true then some (D.lst (List.replicate k.toNat xs).flatten, true) else none) = some (z, f) := hz
      split at hz'
      · rename_i c
        cases hz'
        simp only [Bool.and_eq_true, decide_eq_true_eq] at c
        obtain ⟨a, us, rfl, h1, i1⟩ := ax.lst R.ex
        rw [ay.int]
        exact ⟨_, op_rep, fun Q h => ⟨a, k, us, rfl, rfl, h1, c.1.2, c.2, by rw [i1.length]; exact of_decide_eq_true c.1.1, fun p hp => out_lst h R hp (th p hp) (IsL.rep _ i1)⟩⟩
      · cases hz'
    | _ => cases hz
  · cases hz
end

/-! ### comparisons -/
theorem lst_dp {K : PySem.W.Frag} {G H : Hp} {v : V} {ys : List D} (ex : Same G H) (h : At K G H v (.lst ys)) : Dp K H v (.list (toPys ys)) := h.dp ex
theorem mem_py (x : D) : ∀ ys : List D, ((toPys ys).any fun z => PyData.eqv z (toPy x)) = memD x ys
  | [] => rfl
  | y :: ys => by
    show (PyData.eqv (toPy y) (toPy x) || (toPys ys).any fun z => PyData.eqv z (toPy x)) = (eqD y x || memD x ys)
    rw [mem_py x ys]
    rfl
theorem depth_in {A : Around} {k : Nat} (hr : Room k A) {a b : Nat} (h : min a b ≤ 64) : A.units + 1 + min a b < cLine := by
  have := hr.un
  omega
theorem isNon_v {K : PySem.W.Frag} {G H : Hp} {v : V} {d : D} (h : At K G H v d) : decide (v = .non) = isNonD d := by
  rcases h with h | ⟨a, rfl, q⟩
  · cases h <;> rfl
  · obtain ⟨_, xs, ds, e, _⟩ := q
    subst e
    rfl
theorem eq_rule {X : Cx} {k : Nat} (hr : Room k X.A) {G H : Hp} {dx dy : D} (hq : eqOk dx dy = true) (σ : L2.St) :
    OpR X (compareOp .Eq) (fun x y H Q => Dp X.K H x (toPy dx) ∧ Dp X.K H y (toPy dy) ∧ Q (.bl (eqD dx dy)) H) := by
  intro pins s σ H x y v u Q I rx ry h
  obtain ⟨hd, he, q⟩ := h
  obtain ⟨as, r1⟩ := Dp.reads I _ x v hd rx
  obtain ⟨bs, r2⟩ := Dp.reads I _ y u he ry
  simp only [eqOk, Bool.and_eq_true, decide_eq_true_eq] at hq
  have hu := depth_in hr hq.2
  exact SeqAt.eq_plain r1 r2 (plain_toPy _) (plain_toPy _) (by omega) ⟨.bl _, H, I, rfl, q⟩
theorem ne_rule {X : Cx} {k : Nat} (hr : Room k X.A) {G H : Hp} {dx dy : D} (hq : eqOk dx dy = true) (σ : L2.St) :
    OpR X (compareOp .NotEq) (fun x y H Q => Dp X.K H x (toPy dx) ∧ Dp X.K H y (toPy dy) ∧ Q (.bl (!eqD dx dy)) H) := by
  intro pins s σ H x y v u Q I rx ry h
  obtain ⟨hd, he, q⟩ := h
  obtain ⟨as, r1⟩ := Dp.reads I _ x v hd rx
  obtain ⟨bs, r2⟩ := Dp.reads I _ y u he ry
  simp only [eqOk, Bool.and_eq_true, decide_eq_true_eq] at hq
  have hu := depth_in hr hq.2
  exact SeqAt.ne_plain r1 r2 (plain_toPy _) (plain_toPy _) (by omega) ⟨.bl _, H, I, rfl, q⟩
theorem in_rule {X : Cx} {k : Nat} (hr : Room k X.A) {dx : D} {ys : List D} {dy : D} (hy : dy = .lst ys ∨ dy = .tup ys) (hq : eqOk dx dy = true) :
    OpR X (compareOp .In) (fun x y H Q => Dp X.K H x (toPy dx) ∧ Dp X.K H y (toPy dy) ∧ Q (.bl (memD dx ys)) H) := by
  intro pins s σ H x y v u Q I rx ry h
  obtain ⟨hd, he, q⟩ := h
  obtain ⟨as, r1⟩ := Dp.reads I _ x v hd rx
  obtain ⟨bs, r2⟩ := Dp.reads I _ y u he ry
  simp only [eqOk, Bool.and_eq_true, decide_eq_true_eq] at hq
  have hq2 := hq.2
  rw [← mem_py] at q
  rcases hy with rfl | rfl
  · have e : (toPy (.lst ys)).depth = PyData.depthAll (toPys ys) + 1 := by
      show (PyData.list (toPys ys)).depth = _
      simp only [PyData.depth]
    have hu := hr.un
    exact SeqAt.in_list_data (show Reads s.heap u (.list (toPys ys)) bs from r2) r1 (plainAll_toPys ys) (plain_toPy _) (by omega) ⟨.bl _, H, I, rfl, q⟩
  · have e : (toPy (.tup ys)).depth = PyData.depthAll (toPys ys) + 1 := by
      show (PyData.tuple (toPys ys)).depth = _
      simp only [PyData.depth]
    have hu := hr.un
    exact SeqAt.in_tuple_data (show Reads s.heap u (.tuple (toPys ys)) bs from r2) r1 (plainAll_toPys ys) (plain_toPy _) (by omega) ⟨.bl _, H, I, rfl, q⟩
theorem notIn_rule {X : Cx} {k : Nat} (hr : Room k X.A) {dx : D} {ys : List D} {dy : D} (hy : dy = .lst ys ∨ dy = .tup ys) (hq : eqOk dx dy = true) :
    OpR X (compareOp .NotIn) (fun x y H Q => Dp X.K H x (toPy dx) ∧ Dp X.K H y (toPy dy) ∧ Q (.bl (!memD dx ys)) H) := by
  intro pins s σ H x y v u Q I rx ry h
  obtain ⟨hd, he, q⟩ := h
  obtain ⟨as, r1⟩ := Dp.reads I _ x v hd rx
  obtain ⟨bs, r2⟩ := Dp.reads I _ y u he ry
  simp only [eqOk, Bool.and_eq_true, decide_eq_true_eq] at hq
  have hq2 := hq.2
  rw [← mem_py] at q
  rcases hy with rfl | rfl
  · have e : (toPy (.lst ys)).depth = PyData.depthAll (toPys ys) + 1 := by
      show (PyData.list (toPys ys)).depth = _
      simp only [PyData.depth]
    have hu := hr.un
    exact SeqAt.notIn_list_data (show Reads s.heap u (.list (toPys ys)) bs from r2) r1 (plainAll_toPys ys) (plain_toPy _) (by omega) ⟨.bl _, H, I, rfl, q⟩
  · have e : (toPy (.tup ys)).depth = PyData.depthAll (toPys ys) + 1 := by
      show (PyData.tuple (toPys ys)).depth = _
      simp only [PyData.depth]
    have hu := hr.un
    exact SeqAt.notIn_tuple_data (show Reads s.heap u (.tuple (toPys ys)) bs from r2) r1 (plainAll_toPys ys) (plain_toPy _) (by omega) ⟨.bl _, H, I, rfl, q⟩
section
variable {X : Cx} {G H : Hp} {vx vy : V} {dx dy : D} {z : Bool} {k : Nat}
theorem cmp_ok {op : CmpOp} (hr : Room k X.A) (hz : cmpD op dx dy = some z) (ex : Same G H) (ax : At X.K G H vx dx) (ay : At X.K G H vy dy) :
    ∃ r : R2, OpR X (compareOp op) r ∧ ∀ Q : VK, Q (.bl z) H → r vx vy H Q := by
  cases op with
  | Eq =>
    have h : (if eqOk dx dy then some (eqD dx dy) else none) = some z := hz
    split at h
    · rename_i c
      cases h
      exact ⟨_, eq_rule hr (G := G) (H := H) c [], fun Q q => ⟨ax.dp ex, ay.dp ex, q⟩⟩
    · cases h
  | NotEq =>
    have h : (if eqOk dx dy then some (!eqD dx dy) else none) = some z := hz
    split at h
    · rename_i c
      cases h
      exact ⟨_, ne_rule hr (G := G) (H := H) c [], fun Q q => ⟨ax.dp ex, ay.dp ex, q⟩⟩
    · cases h
  | Lt =>
    simp only [cmpD] at hz
    split at hz
    · cases hz
      rw [ax.int, ay.int]
      exact ⟨_, op_lt, fun Q q => ⟨_, _, rfl, rfl, q⟩⟩
    · cases hz
  | LtE =>
    simp only [cmpD] at hz
    split at hz
    · cases hz
      rw [ax.int, ay.int]
      exact ⟨_, op_le, fun Q q => ⟨_, _, rfl, rfl, q⟩⟩
    · cases hz
  | Gt =>
    simp only [cmpD] at hz
    split at hz
    · cases hz
      rw [ax.int, ay.int]
      exact ⟨_, op_gt, fun Q q => ⟨_, _, rfl, rfl, q⟩⟩
    · cases hz
  | GtE =>
    simp only [cmpD] at hz
    split at hz
    · cases hz
      rw [ax.int, ay.int]
      exact ⟨_, op_ge, fun Q q => ⟨_, _, rfl, rfl, q⟩⟩
    · cases hz
  | Is =>
    simp only [cmpD] at hz
    split at hz
    · cases hz
      rw [ay.non]
      exact ⟨_, op_isN, fun Q q => ⟨rfl, by rw [isNon_v ax]; exact q⟩⟩
    · cases hz
      rw [ax.bl, ay.bl]
      exact ⟨_, op_isBl, fun Q q => ⟨_, _, rfl, rfl, q⟩⟩
    · cases hz
  | IsNot =>
    simp only [cmpD] at hz
    split at hz
    · cases hz
      rw [ay.non]
      exact ⟨_, op_notN, fun Q q => ⟨rfl, by rw [isNon_v ax]; exact q⟩⟩
    · cases hz
      rw [ax.bl, ay.bl]
      exact ⟨_, op_notBl, fun Q q => ⟨_, _, rfl, rfl, q⟩⟩
    · cases hz
  | In =>
    simp only [cmpD] at hz
    split at hz
    · split at hz
      · rename_i c
        cases hz
        exact ⟨_, in_rule hr (.inl rfl) c, fun Q q => ⟨ax.dp ex, ay.dp ex, q⟩⟩
      · cases hz
    · split at hz
      · rename_i c
        cases hz
        exact ⟨_, in_rule hr (.inr rfl) c, fun Q q => ⟨ax.dp ex, ay.dp ex, q⟩⟩
      · cases hz
    · cases hz
  | NotIn =>
    simp only [cmpD] at hz
    split at hz
    · split at hz
      · rename_i c
        cases hz
        exact ⟨_, notIn_rule hr (.inl rfl) c, fun Q q => ⟨ax.dp ex, ay.dp ex, q⟩⟩
      · cases hz
    · split at hz
      · rename_i c
        cases hz
        exact ⟨_, notIn_rule hr (.inr rfl) c, fun Q q => ⟨ax.dp ex, ay.dp ex, q⟩⟩
      · cases hz
    · cases hz
/-! ### subscripts -/
theorem ix_ok {z : D} (hz : ixD dx dy = some z) (ex : Same G H) (ax : At X.K G H vx dx) (ay : At X.K G H vy dy) :
    ∃ r : R2, IxR X r ∧ ∀ Q : VK, (∀ v, Is X.K G v z → Q v H) → r vx vy H Q := by
  unfold ixD at hz
  split at hz
  · obtain ⟨a, us, rfl, h1, i1⟩ := ax.lst ex
    rw [ay.int]
    obtain ⟨v, e, i⟩ := i1.atI hz
    exact ⟨_, ix_list, fun Q q => ⟨a, us, _, v, rfl, rfl, .inl (.inl h1), e, q v i⟩⟩
  · obtain ⟨a, us, rfl, h1, i1⟩ := ax.scr ex
    rw [ay.int]
    obtain ⟨v, e, i⟩ := i1.atI hz
    exact ⟨_, ix_list, fun Q q => ⟨a, us, _, v, rfl, rfl, h1, e, q v i⟩⟩
  · obtain ⟨a, us, rfl, h1, i1⟩ := ax.tup ex
    rw [ay.int]
    obtain ⟨v, e, i⟩ := i1.atI hz
    exact ⟨_, ix_tup, fun Q q => ⟨a, us, _, v, rfl, rfl, h1, e, q v i⟩⟩
  · rename_i y i
    split at hz
    · rename_i c
      rw [ax.str, ay.int]
      cases e : atI y.cps.toList i with
      | none => rw [e] at hz; cases hz
      | some w =>
        rw [e] at hz
        cases hz
        exact ⟨_, ix_str, fun Q q => ⟨y, i, w, rfl, rfl, of_decide_eq_true c, e, q _ (.str _)⟩⟩
    · cases hz
  · cases hz
end
section
variable {X : Cx} {W : WX} {σ : L2.St} {ρ : Ro} {G H H0 : Hp} {vx : V} {dx z : D} {f : Bool}
theorem cut_ok {lo hi : Option Int} (hz : cutD dx lo hi = some (z, f)) (R : Rep X.K G H σ ρ) (ax : At X.K G H vx dx) (th : ∀ a, H a = none → H0 a = none) :
    ∃ r : V → Option Int → Option Int → Hp → VK → Prop, SlR X r ∧ ∀ Q, Post X.mg X.K W σ ρ G H (.ok (.va z f) ρ) (OutC X.K σ H0 Q) → r vx lo hi H Q := by
  unfold cutD at hz
  split at hz
  · cases hz
    obtain ⟨a, us, rfl, h1, i1⟩ := ax.lst R.ex
    exact ⟨_, sl_list, fun Q h => ⟨a, us, rfl, .inl (.inl h1), fun p hp => out_lst h R hp (th p hp) (i1.cut _ _)⟩⟩
  · rename_i xs
    cases hz
    have it := ax.isTup
    obtain ⟨a, us, rfl, h1, i1⟩ := ax.tup R.ex
    refine ⟨_, sl_tupA, fun Q h => ⟨a, us, rfl, h1, fun e => ?_, fun _ p hp => out_tup h R hp (i1.cut _ _)⟩⟩
    have e2 : cutX xs lo hi = xs := by
      unfold cutX
      rw [i1.length] at e
      rw [e.1, e.2, List.drop_zero, Nat.sub_zero, List.take_length]
    rw [e2] at h
    exact out_val h R it
  · cases hz
end
end VE
end

section
set_option Elab.async false
set_option linter.all false
set_option maxRecDepth 100000
set_option maxHeartbeats 1000000
/-! VE2: truth, built-in functions, arguments. -/
namespace VE
open PySem PySem.Spec L2

theorem emp_eq {K : PySem.W.Frag} {G : Hp} {us : List V} {ds : List D} (i : IsL K G us ds) : us.isEmpty = ds.isEmpty := by
  cases i <;> rfl
theorem tru_ok' {K : PySem.W.Frag} {G H : Hp} {v : V} {d : D} {b : Bool} (ex : Same G H) (h : truD d = some b) (a : At K G H v d) : TruV K v H b := by
  cases d with
  | non =>
    cases h
    rw [a.non]
    rfl
  | bl b' =>
    cases h
    rw [a.bl]
    rfl
  | int i =>
    cases h
    rw [a.int]
    rfl
  | str y =>
    simp only [truD] at h
    split at h
    · rename_i c
      cases h
      rw [a.str]
      exact ⟨c, rfl⟩
    · cases h
  | tup ds =>
    cases h
    obtain ⟨p, us, rfl, h1, i⟩ := a.tup ex
    exact .inr (.inl ⟨us, h1, by rw [emp_eq i]⟩)
  | lst ds =>
    cases h
    obtain ⟨p, us, rfl, h1, i⟩ := a.lst ex
    exact .inl ⟨us, .inl (.inl h1), by rw [emp_eq i]⟩
  | scr ds =>
    cases h
    obtain ⟨p, us, rfl, h1, i⟩ := a.scr ex
    exact .inl ⟨us, h1, by rw [emp_eq i]⟩
  | obj c fs => cases h

inductive AtL (K : PySem.W.Frag) (G H : Hp) : List V → List D → Prop
  | nil : AtL K G H [] []
  | cons {v : V} {d : D} {vs : List V} {ds : List D} (h : At K G H v d) (r : AtL K G H vs ds) : AtL K G H (v :: vs) (d :: ds)
theorem IsL.at {K : PySem.W.Frag} {G H : Hp} : ∀ {vs : List V} {ds : List D}, IsL K G vs ds → AtL K G H vs ds
  | _, _, .nil => .nil
  | _, _, .cons h r => .cons (.inl h) (IsL.at r)
theorem DenA.deref {K : PySem.W.Frag} {G H : Hp} {σ : L2.St} {ρ : Ro} (R : Rep K G H σ ρ) : ∀ {vs : List V} {bs : List Bv} {ds : List D}, DenA K G σ vs bs → bs.mapM (VE.deref ρ) = some ds → AtL K G H vs ds
  | _, _, ds, .nil, h => by
    simp at h
    subst h
    exact .nil
  | _, _, ds, .at (i := i) (bs := bs) h r, e => by
    rw [List.mapM_cons] at e
    cases e1 : VE.deref ρ (.at i) with
    | none => rw [e1] at e; cases e
    | some d =>
      rw [e1] at e
      cases e2 : bs.mapM (VE.deref ρ) with
      | none => rw [e2] at e; cases e
      | some es =>
        rw [e2] at e
        cases e
        exact .cons (Den.deref (b := .at i) R h e1) (DenA.deref R r e2)
  | _, _, ds, .va (d := d0) (bs := bs) h r, e => by
    rw [List.mapM_cons] at e
    cases e2 : bs.mapM (VE.deref ρ) with
    | none => rw [e2] at e; cases e
    | some es =>
      rw [e2] at e
      cases e
      exact .cons (.inl h) (DenA.deref R r e2)
theorem sum_vs {K : PySem.W.Frag} {G : Hp} : ∀ {us : List V} {ds : List D} {ns : List Int}, sumI ds = some ns → IsL K G us ds → us = ns.map V.int
  | _, [], _, h, .nil => by cases h; rfl
  | _, .int i :: r, ns, h, .cons (.int _) q => by
    simp only [sumI] at h
    cases e : sumI r with
    | none => rw [e] at h; cases h
    | some ms =>
      rw [e] at h
      cases h
      rw [sum_vs e q]
      rfl
theorem all_vs {K : PySem.W.Frag} {G : Hp} : ∀ {us : List V} {ds : List D} {ns : List Bool}, allB ds = some ns → IsL K G us ds → us = ns.map V.bl
  | _, [], _, h, .nil => by cases h; rfl
  | _, .bl i :: r, ns, h, .cons (.bl _) q => by
    simp only [allB] at h
    cases e : allB r with
    | none => rw [e] at h; cases h
    | some ms =>
      rw [e] at h
      cases h
      rw [all_vs e q]
      rfl
section
variable {X : Cx} {W : WX} {σ : L2.St} {ρ : Ro} {G H H0 : Hp} {vs : List V} {ds : List D} {z : D} {f : Bool}
/-- a built-in's answer -/
def BiOk (X : Cx) (x : Str) (W : WX) (σ : L2.St) (ρ : Ro) (G H H0 : Hp) (vs : List V) (z : D) (f : Bool) : Prop :=
  (∃ id r, bootBuiltins x = some (.builtin id) ∧ CallR X (.builtin id) r ∧ ∀ Q, Post X.mg X.K W σ ρ G H (.ok (.va z f) ρ) (OutC X.K σ H0 Q) → r vs H Q) ∨
  (∃ T r, bootBuiltins x = some (.type T) ∧ CallR X (.type T) r ∧ ∀ Q, Post X.mg X.K W σ ρ G H (.ok (.va z f) ρ) (OutC X.K σ H0 Q) → r vs H Q)
theorem bi_ok {x : Str} (hz : biD x ds = some (z, f)) (hc : X.calm = true) (R : Rep X.K G H σ ρ) (a : AtL X.K G H vs ds) (th : ∀ a, H a = none → H0 a = none) : BiOk X x W σ ρ G H H0 vs z f := by
  unfold biD at hz
  by_cases h1 : x = "len"
  · subst h1
    rw [if_pos rfl] at hz
    split at hz
    · cases hz
      cases a with | cons a r => cases r with | nil =>
      obtain ⟨p, us, rfl, q1, i⟩ := a.lst R.ex
      exact .inl ⟨_, _, PySem.boot_len, call_len_seq, fun Q h => ⟨p, us, rfl, .inl (.inl (.inl q1)), by rw [i.length]; exact out_val h R (.int _)⟩⟩
    · cases hz
      cases a with | cons a r => cases r with | nil =>
      obtain ⟨p, us, rfl, q1, i⟩ := a.scr R.ex
      exact .inl ⟨_, _, PySem.boot_len, call_len_seq, fun Q h => ⟨p, us, rfl, .inl q1, by rw [i.length]; exact out_val h R (.int _)⟩⟩
    · cases hz
      cases a with | cons a r => cases r with | nil =>
      obtain ⟨p, us, rfl, q1, i⟩ := a.tup R.ex
      exact .inl ⟨_, _, PySem.boot_len, call_len_seq, fun Q h => ⟨p, us, rfl, .inr q1, by rw [i.length]; exact out_val h R (.int _)⟩⟩
    · split at hz
      · rename_i c
        cases hz
        cases a with | cons a r => cases r with | nil =>
        rw [a.str]
        exact .inl ⟨_, _, PySem.boot_len, call_len_str, fun Q h => ⟨_, rfl, of_decide_eq_true c, out_val h R (.int _)⟩⟩
      · cases hz
    · cases hz
  rw [if_neg h1] at hz
  by_cases h2 : x = "abs"
  · subst h2
    rw [if_pos rfl] at hz
    split at hz
    · cases hz
      cases a with | cons a r => cases r with | nil =>
      rw [a.int]
      exact .inl ⟨"abs", _, by decide +kernel, call_abs, fun Q h => ⟨_, rfl, out_val h R (.int _)⟩⟩
    · cases hz
  rw [if_neg h2] at hz
  by_cases h3 : x = "int"
  · subst h3
    rw [if_pos rfl] at hz
    split at hz
    · cases hz
      cases a with | cons a r => cases r with | nil =>
      rw [a.int]
      exact .inr ⟨"int", _, by decide +kernel, call_int1, fun Q h => .inl ⟨_, rfl, out_val h R (.int _)⟩⟩
    · cases hz
      cases a with | cons a r => cases r with | nil =>
      rw [a.bl]
      exact .inr ⟨"int", _, by decide +kernel, call_int1, fun Q h => .inr ⟨_, rfl, out_val h R (.int _)⟩⟩
    · cases hz
  rw [if_neg h3] at hz
  by_cases h4 : x = "str"
  · subst h4
    rw [if_pos rfl] at hz
    split at hz
    · split at hz
      · rename_i c
        cases hz
        cases a with | cons a r => cases r with | nil =>
        rw [a.int]
        exact .inr ⟨"str", _, by decide +kernel, call_str_int, fun Q h => ⟨_, rfl, of_decide_eq_true c, out_val h R (.str _)⟩⟩
      · cases hz
    · cases hz
  rw [if_neg h4] at hz
  by_cases h5 : x = "tuple"
  · subst h5
    rw [if_pos rfl] at hz
    split at hz
    · cases hz
      cases a with | cons a r => cases r with | nil =>
      obtain ⟨p, us, rfl, q1, i⟩ := a.lst R.ex
      exact .inr ⟨"tuple", _, by decide +kernel, call_tuple_of, fun Q h => ⟨p, us, rfl, .inl ⟨.inl (.inl q1), fun l hl => out_tup h R hl i⟩⟩⟩
    · cases hz
      cases a with | cons a r => cases r with | nil =>
      obtain ⟨p, us, rfl, q1, i⟩ := a.scr R.ex
      exact .inr ⟨"tuple", _, by decide +kernel, call_tuple_of, fun Q h => ⟨p, us, rfl, .inl ⟨q1, fun l hl => out_tup h R hl i⟩⟩⟩
    · cases hz
      cases a with | cons a r => cases r with | nil =>
      have it := a.isTup
      obtain ⟨p, us, rfl, q1, i⟩ := a.tup R.ex
      exact .inr ⟨"tuple", _, by decide +kernel, call_tuple_of, fun Q h => ⟨p, us, rfl, .inr ⟨q1, out_val h R it⟩⟩⟩
    · cases hz
  rw [if_neg h5] at hz
  by_cases h6 : x = "list"
  · subst h6
    rw [if_pos rfl] at hz
    split at hz
    · cases hz
      cases a with | cons a r => cases r with | nil =>
      obtain ⟨p, us, rfl, q1, i⟩ := a.lst R.ex
      exact .inr ⟨"list", _, by decide +kernel, call_list_of, fun Q h => ⟨p, us, rfl, .inl (.inl (.inl q1)), fun l hl => out_lst h R hl (th l hl) i⟩⟩
    · cases hz
      cases a with | cons a r => cases r with | nil =>
      obtain ⟨p, us, rfl, q1, i⟩ := a.scr R.ex
      exact .inr ⟨"list", _, by decide +kernel, call_list_of, fun Q h => ⟨p, us, rfl, .inl q1, fun l hl => out_lst h R hl (th l hl) i⟩⟩
    · cases hz
      cases a with | cons a r => cases r with | nil =>
      obtain ⟨p, us, rfl, q1, i⟩ := a.tup R.ex
      exact .inr ⟨"list", _, by decide +kernel, call_list_of, fun Q h => ⟨p, us, rfl, .inr q1, fun l hl => out_lst h R hl (th l hl) i⟩⟩
    · cases hz
  rw [if_neg h6] at hz
  by_cases h7 : x = "sum"
  · subst h7
    rw [if_pos rfl] at hz
    split at hz
    · rename_i xs
      cases e : sumI xs with
      | none => rw [e] at hz; cases hz
      | some ns =>
        rw [e] at hz
        cases hz
        cases a with | cons a r => cases r with | nil =>
        obtain ⟨p, us, rfl, q1, i⟩ := a.lst R.ex
        rw [sum_vs e i] at q1
        exact .inl ⟨"sum", _, by decide +kernel, cr_sum hc, fun Q h => ⟨p, ns, rfl, .inl (.inl q1), out_val h R (.int _)⟩⟩
    · cases hz
  rw [if_neg h7] at hz
  by_cases h8 : x = "any"
  · subst h8
    rw [if_pos rfl] at hz
    split at hz
    · rename_i xs
      cases e : allB xs with
      | none => rw [e] at hz; cases hz
      | some ns =>
        rw [e] at hz
        cases hz
        cases a with | cons a r => cases r with | nil =>
        obtain ⟨p, us, rfl, q1, i⟩ := a.lst R.ex
        rw [all_vs e i] at q1
        exact .inl ⟨"any", _, by decide +kernel, cr_any hc, fun Q h => ⟨p, ns, rfl, .inl (.inl q1), out_val h R (.bl _)⟩⟩
    · cases hz
  rw [if_neg h8] at hz
  by_cases h9 : x = "all"
  · subst h9
    rw [if_pos rfl] at hz
    split at hz
    · rename_i xs
      cases e : allB xs with
      | none => rw [e] at hz; cases hz
      | some ns =>
        rw [e] at hz
        cases hz
        cases a with | cons a r => cases r with | nil =>
        obtain ⟨p, us, rfl, q1, i⟩ := a.lst R.ex
        rw [all_vs e i] at q1
        exact .inl ⟨"all", _, by decide +kernel, cr_all hc, fun Q h => ⟨p, ns, rfl, .inl (.inl q1), out_val h R (.bl _)⟩⟩
    · cases hz
  rw [if_neg h9] at hz
  by_cases h10 : x = "max"
  · subst h10
    rw [if_pos rfl] at hz
    split at hz
    · cases hz
      cases a with | cons a r => cases r with | cons a' r => cases r with | nil =>
      rw [a.int, a'.int]
      exact .inl ⟨"max", _, by decide +kernel, call_max2 hc, fun Q h => ⟨_, _, rfl, out_val h R (.int _)⟩⟩
    · cases hz
  rw [if_neg h10] at hz
  by_cases h11 : x = "min"
  · subst h11
    rw [if_pos rfl] at hz
    split at hz
    · cases hz
      cases a with | cons a r => cases r with | cons a' r => cases r with | nil =>
      rw [a.int, a'.int]
      exact .inl ⟨"min", _, by decide +kernel, call_min2 hc, fun Q h => ⟨_, _, rfl, out_val h R (.int _)⟩⟩
    · cases hz
  rw [if_neg h11] at hz
  cases hz
end
/-! ### a value as a whole -/
section
variable {α : Type} {mg : Str → Option Value} {K : PySem.W.Frag} {W : WX} {σ : L2.St} {ρ ρ1 : Ro} {G H G1 H1 : Hp}
theorem Post.later {r : Rs α} {C : α → Ro → Hp → Hp → Prop} (h : Post mg K W σ ρ G H r C) (g : Go σ ρ G H σ ρ1 G1 H1) (e : Evo ρ ρ1) : Post mg K W σ ρ1 G1 H1 r C := by
  cases r with
  | stuck => exact h
  | exc c fs ρ2 => exact fun cls dd G2 H2 g2 e2 R2 x => h cls dd G2 H2 (g.trans g2) (e.trans e2) R2 x
  | ok b ρ2 => exact fun G2 H2 g2 e2 R2 => h G2 H2 (g.trans g2) (e.trans e2) R2
theorem PostF.later {r : Rf} {D : Ends} {σ1 : L2.St} (h : PostF mg K W σ ρ G H r D) (g : Go σ ρ G H σ1 ρ1 G1 H1) : PostF mg K W σ1 ρ1 G1 H1 r D := by
  cases r with
  | stuck => exact h
  | exc c fs ρ2 => exact fun cls dd σ2 G2 H2 g2 R2 x => h cls dd σ2 G2 H2 (g.trans g2) R2 x
  | next ρ2 => exact fun σ2 G2 H2 g2 R2 => h σ2 G2 H2 (g.trans g2) R2
  | brk ρ2 => exact fun σ2 G2 H2 g2 R2 => h σ2 G2 H2 (g.trans g2) R2
  | cnt ρ2 => exact fun σ2 G2 H2 g2 R2 => h σ2 G2 H2 (g.trans g2) R2
  | ret b ρ2 => exact fun v σ2 G2 H2 g2 R2 dn nw => h v σ2 G2 H2 (g.trans g2) R2 dn fun d a e1 e2 => g.there a (nw d a e1 e2)
/-- a new list is fixed -/
theorem fix_tmp {a : Addr} {xs : List V} {ds : List D} (R : Rep K G1 H1 σ ρ1) (g : Go σ ρ G H σ ρ1 G1 H1) (c1 : G1 a = none) (c3 : H1 a = some (.lst xs)) (c4 : IsL K G1 xs ds) (n : ∀ i, ¬ OwAt σ ρ1 i a) (h0 : H a = none) :
    Go σ ρ G H σ ρ1 (upd G1 a (.lst xs)) H1 ∧ Rep K (upd G1 a (.lst xs)) H1 σ ρ1 ∧ Is K (upd G1 a (.lst xs)) (.ref a) (.lst ds) := by
  have sg : Same G1 (upd G1 a (.lst xs)) := same_upd c1
  refine ⟨⟨g.g.trans sg, g.keep, fun x u e q m => ?_, g.own, g.pin, g.there⟩, ⟨fun x u e => ?_, R.len, fun j s e => ?_, R.dj⟩, .lst upd_same (c4.mono sg)⟩
  · rw [upd_ne (ne_of_none e h0)]
    exact g.fr x u e q m
  · by_cases q : x = a
    · subst q; rw [upd_same] at e; rw [← e]; exact c3
    · rw [upd_ne q] at e; exact R.ex x u e
  · refine (R.sl j s e).later sg fun m x d es ex ⟨k1, ys, es', k2, k3, k4⟩ => ⟨?_, ys, es', k2, k3, k4.mono sg⟩
    rw [upd_ne fun z => n j ⟨m, d, by rw [e, es], by rw [ex, z]⟩]
    exact k1
theorem whole_of {b : Bv} {v : V} (R : Rep K G1 H1 σ ρ1) (g : Go σ ρ G H σ ρ1 G1 H1) (e : Evo ρ ρ1) (o : Out K H G1 H1 σ ρ1 v b) {d : D} {ρ2 : Ro} (hw : whole b ρ1 = .ok d ρ2) :
    ∃ G2, Go σ ρ G H σ ρ2 G2 H1 ∧ Evo ρ ρ2 ∧ Rep K G2 H1 σ ρ2 ∧ Is K G2 v d := by
  obtain ⟨dn, nw⟩ := o
  cases b with
  | va d' f =>
    cases hw
    cases f with
    | false => exact ⟨G1, g, e, R, dn⟩
    | true =>
      obtain ⟨a, rfl, ⟨c1, xs, ds, rfl, c3, c4⟩, n⟩ := dn
      obtain ⟨h1, h2, h3⟩ := fix_tmp R g c1 c3 c4 n (nw _ a rfl rfl)
      exact ⟨_, h1, e, h2, h3⟩
  | «at» i =>
    have hv : σ[i]? = some (some v) := dn
    unfold whole at hw
    cases q : ρ1[i]? with
    | none => simp only [q] at hw; cases hw
    | some s =>
      have z := R.sl i s q
      rw [hv] at z
      cases s with
      | un => simp only [q] at hw; cases hw
      | fz d' =>
        simp only [q] at hw
        cases hw
        obtain ⟨v', e1, e2⟩ := z
        cases e1
        exact ⟨G1, g, e, R, e2⟩
      | pz d' =>
        simp only [q] at hw
        cases hw
        obtain ⟨a, xs, ds, e1, e2, e3, e4⟩ := z
        cases e1
        subst e2
        exact ⟨G1, g, e, R, .lst e3 e4⟩
      | ow m d' =>
        cases m with
        | own =>
          simp only [q] at hw
          cases hw
          obtain ⟨a, xs, ds, e1, rfl, e3, e4, go, R2⟩ := freeze R q (by decide)
          rw [hv] at e1
          cases e1
          exact ⟨_, g.trans go, e.trans (evo_freeze (m := .own) q), R2, .lst upd_same (e4.mono go.g)⟩
        | par =>
          simp only [q] at hw
          cases hw
          obtain ⟨a, xs, ds, e1, rfl, e3, e4, go, R2⟩ := freeze R q (by decide)
          rw [hv] at e1
          cases e1
          exact ⟨_, g.trans go, e.trans (evo_freeze (m := .par) q), R2, .lst upd_same (e4.mono go.g)⟩
        | lck =>
          simp only [q] at hw
          cases hw
theorem whole_noexc {b : Bv} {ρ : Ro} {c : Str} {fs : List (Str × D)} {ρ' : Ro} (q : whole b ρ = .exc c fs ρ') : False := by
  cases b with
  | va d f => cases q
  | «at» i =>
    simp only [whole] at q
    split at q <;> cases q
theorem Post.bindW {β : Type} {r : Rs Bv} {k : D → Ro → Rs β} {C : β → Ro → Hp → Hp → Prop} (h : Post mg K W σ ρ G H (r.bind fun b ρ1 => (whole b ρ1).bind k) C) :
    Post mg K W σ ρ G H r fun b ρ1 G1 H1 => ∀ v, Out K H G1 H1 σ ρ1 v b → ∃ d ρ2 G2, Go σ ρ G H σ ρ2 G2 H1 ∧ Evo ρ ρ2 ∧ Rep K G2 H1 σ ρ2 ∧ Is K G2 v d ∧ Post mg K W σ ρ2 G2 H1 (k d ρ2) C := by
  cases r with
  | stuck => exact h
  | exc c fs ρ' => exact h
  | ok b ρ1 =>
    intro G1 H1 g1 e1 R1 v o
    have h' : Post mg K W σ ρ G H ((whole b ρ1).bind k) C := h
    cases q : whole b ρ1 with
    | stuck => rw [q] at h'; exact h'.elim
    | exc c fs ρ' =>
      exact (whole_noexc q).elim
    | ok d ρ2 =>
      rw [q] at h'
      obtain ⟨G2, go, ev, R2, i⟩ := whole_of R1 g1 e1 o q
      exact ⟨d, ρ2, G2, go, ev, R2, i, Post.later (r := k d ρ2) h' go ev⟩
theorem PostF.bindW {r : Rs Bv} {k : D → Ro → Rf} {D' : Ends} (h : PostF mg K W σ ρ G H (r.toF fun b ρ1 => (whole b ρ1).toF k) D') :
    Post mg K W σ ρ G H r fun b ρ1 G1 H1 => ∀ v, Out K H G1 H1 σ ρ1 v b → ∃ d ρ2 G2, Go σ ρ G H σ ρ2 G2 H1 ∧ Evo ρ ρ2 ∧ Rep K G2 H1 σ ρ2 ∧ Is K G2 v d ∧ PostF mg K W σ ρ2 G2 H1 (k d ρ2) D' := by
  cases r with
  | stuck => exact h
  | exc c fs ρ' => exact fun cls dd G' H' g _ R x => h cls dd σ G' H' g R x
  | ok b ρ1 =>
    intro G1 H1 g1 e1 R1 v o
    have h' : PostF mg K W σ ρ G H ((whole b ρ1).toF k) D' := h
    cases q : whole b ρ1 with
    | stuck => rw [q] at h'; exact h'.elim
    | exc c fs ρ' =>
      exact (whole_noexc q).elim
    | ok d ρ2 =>
      rw [q] at h'
      obtain ⟨G2, go, ev, R2, i⟩ := whole_of R1 g1 e1 o q
      exact ⟨d, ρ2, G2, go, ev, R2, i, PostF.later (r := k d ρ2) h' go⟩
end
end VE
end

section
set_option Elab.async false
set_option linter.all false
set_option maxRecDepth 100000
set_option maxHeartbeats 1000000
/-! VE3: the simple expressions. -/
namespace VE
open PySem PySem.Spec L2

section
variable {M : Mdl} {N : List Str} {sc : Scope} {k : Nat} {X : Cx} {W : WX}
theorem ixN_get {N : List Str} {x : Str} {i : Nat} (h : ixN? N x = some i) : N[i]? = some x := by
  unfold ixN? at h
  rw [List.findIdx?_eq_some_iff_getElem] at h
  obtain ⟨hi, e, _⟩ := h
  rw [List.getElem?_eq_getElem hi, eq_of_beq e]
theorem nameOk_dbg {x : Str} (h : nameOk x = true) : (x == ("__debug__" : Str)) = false := by
  simp only [nameOk, Bool.and_eq_true, Bool.not_eq_true'] at h
  exact h.1.1
theorem nameOk_cd {x : Str} (h : nameOk x = true) : (x == ("__classdict__" : Str)) = false := by
  simp only [nameOk, Bool.and_eq_true, Bool.not_eq_true'] at h
  exact h.1.2
theorem nameOk_nm {x : Str} (h : nameOk x = true) : x ≠ "__name__" := by
  simp only [nameOk, Bool.and_eq_true, Bool.not_eq_true'] at h
  exact fun e => by
    have := h.2
    rw [e] at this
    simp at this
theorem vis_name {x : Str} (h : visK sc x = true) : nameOk x = true := (Bool.and_eq_true_iff.mp h).1
theorem glo_name {x : Str} (h : gloK sc x = true) : nameOk x = true := (Bool.and_eq_true_iff.mp h).1
theorem XOk.vis (O : XOk M N sc k X W) {x : Str} (h : visK sc x = true) : Vis X.env.scope x := by
  have h2 := (Bool.and_eq_true_iff.mp h).2
  rcases O.rel x with e | ⟨e1, e2⟩
  · unfold Vis
    rw [e]
    split at h2
    · rename_i q; exact .inl q
    · rename_i q; exact .inr (.inl q)
    · rename_i q; exact .inr (.inr q)
    · cases h2
  · exact .inr (.inl e2)
theorem XOk.glo (O : XOk M N sc k X W) {x : Str} (h : gloK sc x = true) : Gl X x := by
  have h2 := (Bool.and_eq_true_iff.mp h).2
  split at h2
  · rename_i q
    rcases O.rel x with e | ⟨e1, e2⟩
    · show X.env.scope.names.lookup x = some .globalImplicit
      rw [e]
      exact q
    · rw [q] at e1
      cases e1
  · cases h2
theorem XOk.loc (O : XOk M N sc k X W) {x : Str} (h : locK sc x = true) : Loc X.env.scope x ∧ (X.fn x = true ∨ X.env.scope.names.lookup x = some .local) := by
  unfold locK at h
  split at h
  · rename_i q
    rcases O.rel x with e | ⟨e1, e2⟩
    · rw [q] at e
      exact ⟨.inl e, .inr e⟩
    · rw [q] at e1
      cases e1
  · rename_i q
    rcases O.rel x with e | ⟨e1, e2⟩
    · exact ⟨.inr (e.trans q), .inl (O.fn x q)⟩
    · rw [q] at e1
      cases e1
  · cases h
end

section
variable {M : Mdl} {N : List Str} {E : Ev} {sc : Scope} {k : Nat} {X : Cx} {W : WX} {σ : L2.St} {ρ : Ro} {G H : Hp} {Q : VK}
theorem snd_name {x : Str} {p : Pos} (O : XOk M N sc k X W) (R : Rep X.K G H σ ρ) (h : Post X.mg X.K W σ ρ G H (stepE M N E sc (.Name x p) ρ) (OutC X.K σ H Q)) : WE X (.Name x p) σ H Q := by
  simp only [stepE] at h
  split at h
  · rename_i hv
    split at h
    · exact h.elim
    · rename_i i hi
      have hN : X.N[i]? = some x := by rw [O.nm]; exact ixN_get hi
      refine WE.mk (pe_var hN (O.vis hv) (nameOk_dbg (vis_name hv)) (nameOk_cd (vis_name hv))) ?_
      split at h
      · rename_i d e
        obtain ⟨v, e1, i1⟩ := R.sl i _ e
        exact ⟨v, e1, out_val h R i1⟩
      · rename_i d e
        obtain ⟨a, xs, ds, e1, rfl, e3, e4⟩ := R.sl i _ e
        exact ⟨.ref a, e1, out_val h R (.lst e3 e4)⟩
      · rename_i m d e
        obtain ⟨a, e1, _⟩ := R.sl i _ e
        exact ⟨.ref a, e1, h.here R (.ref a) ⟨e1, fun _ _ q _ => nomatch q⟩⟩
      · exact h.elim
  · split at h
    · rename_i hg
      split at h
      · rename_i d hd
        obtain ⟨u, v, hm, r, i⟩ := O.md.con x d hd
        exact WE.mk (pe_glob (O.glo hg) hm r (nameOk_dbg (glo_name hg))) (out_val h R (i G))
      · exact h.elim
    · exact h.elim
theorem snd_const {c : Const} {j : Nat} {p : Pos} (R : Rep X.K G H σ ρ) (h : Post X.mg X.K W σ ρ G H (stepE M N E sc (.Constant c j p) ρ) (OutC X.K σ H Q)) : WE X (.Constant c j p) σ H Q := by
  simp only [stepE] at h
  split at h
  · exact WE.mk pe_int (out_val h R (.int _))
  · exact WE.mk pe_bl (out_val h R (.bl _))
  · exact WE.mk pe_non (out_val h R .non)
  · exact WE.mk pe_str (out_val h R (.str _))
  · exact h.elim
variable (S : Snd M N E)
include S
theorem snd_bin {a b : Expr} {op : Operator} {p : Pos} (O : XOk M N sc k X W) (R : Rep X.K G H σ ρ) (h : Post X.mg X.K W σ ρ G H (stepE M N E sc (.BinOp a op b p) ρ) (OutC X.K σ H Q)) : WE X (.BinOp a op b p) σ H Q := by
  simp only [stepE] at h
  have key : ∃ r : R2, OpR X (binaryOp op) r ∧ WE X a σ H fun x H1 => WE X b σ H1 fun y H2 => r x y H2 Q := by
    refine ⟨fun x y H Q => ∃ r : R2, OpR X (binaryOp op) r ∧ r x y H Q, fun pins s σ H x y v u Q I rx ry ⟨r, hr, q⟩ => hr pins s σ H x y v u Q I rx ry q, ?_⟩
    refine S.e O R (h.bind.imp fun x ρ1 G1 H1 _ g1 e1 R1 h1 vx ox => ?_)
    refine S.e O R1 (h1.bind.imp fun y ρ2 G2 H2 _ g2 e2 R2 h2 vy oy => ?_)
    obtain ⟨z, hz, h3⟩ := Post.of_none h2
    have dx := ox.1.go g2 e2
    cases ex : deref ρ2 x with
    | none => rw [ex] at hz; cases hz
    | some wx =>
      cases ey : deref ρ2 y with
      | none => rw [ex, ey] at hz; cases hz
      | some wy =>
        rw [ex, ey] at hz
        cases eb : binD op wx wy with
        | none => simp only [Option.bind_some, eb] at hz; cases hz
        | some zz =>
          simp only [Option.bind_some, eb, Option.map_some, Option.some.injEq] at hz
          subst hz
          obtain ⟨r, hr, hq⟩ := bin_ok (X := X) (W := W) (σ := σ) (ρ := ρ2) (z := zz.1) (f := zz.2) eb R2 (dx.deref R2 ex) (oy.1.deref R2 ey) (fun a ha => g1.there a (g2.there a ha))
          exact ⟨r, hr, hq Q h3⟩
  obtain ⟨r, hr, q⟩ := key
  exact WE.mk (pe_op hr pe_we pe_we) q
theorem snd_un {a : Expr} {op : UnaryOp} {p : Pos} (O : XOk M N sc k X W) (R : Rep X.K G H σ ρ) (h : Post X.mg X.K W σ ρ G H (stepE M N E sc (.UnaryOp op a p) ρ) (OutC X.K σ H Q)) : WE X (.UnaryOp op a p) σ H Q := by
  cases op with
  | USub =>
    simp only [stepE] at h
    refine WE.mk (pe_un un_neg pe_we) ?_
    refine S.e O R (h.bind.imp fun x ρ1 G1 H1 _ g1 e1 R1 h1 vx ox => ?_)
    split at h1
    · rename_i i e
      have a1 := ox.1.deref R1 e
      exact ⟨i, a1.int, out_val h1 R1 (.int _)⟩
    · exact h1.elim
  | Not =>
    simp only [stepE] at h
    refine WE.mk (pe_notT pe_we) ?_
    refine S.e O R (h.bind.imp fun x ρ1 G1 H1 _ g1 e1 R1 h1 vx ox => ?_)
    obtain ⟨z, hz, h3⟩ := Post.of_none h1
    cases e : deref ρ1 x with
    | none => rw [e] at hz; cases hz
    | some d =>
      rw [e] at hz
      cases e2 : truD d with
      | none => simp only [Option.bind_some, e2] at hz; cases hz
      | some b =>
        simp only [Option.bind_some, e2, Option.map_some, Option.some.injEq] at hz
        subst hz
        exact ⟨b, tru_ok' R1.ex e2 (ox.1.deref R1 e), out_val h3 R1 (.bl _)⟩
  | _ => exact (show False from h).elim
theorem snd_bool {vs : List Expr} {op : BoolOp} {p : Pos} (O : XOk M N sc k X W) (R : Rep X.K G H σ ρ) (h : Post X.mg X.K W σ ρ G H (stepE M N E sc (.BoolOp op vs p) ρ) (OutC X.K σ H Q)) : WE X (.BoolOp op vs p) σ H Q := by
  simp only [stepE] at h
  split at h
  · exact WE.mk (pe_one pe_we) (S.e O R h)
  · rename_i a b r
    cases op with
    | And =>
      refine WE.mk (pe_andT pe_we pe_we) ?_
      refine S.e O R (h.bind.imp fun x ρ1 G1 H1 _ g1 e1 R1 h1 vx ox => ?_)
      split at h1
      · exact h1.elim
      · rename_i kk e
        cases e3 : deref ρ1 x with
        | none => rw [e3] at e; cases e
        | some d =>
          rw [e3] at e
          refine ⟨kk, tru_ok' R1.ex e (ox.1.deref R1 e3), ?_⟩
          cases kk with
          | true =>
            rw [if_pos rfl] at h1 ⊢
            exact S.e O R1 (h1.imp fun y ρ2 G2 H2 _ g2 e2 R2 h2 vy oy => h2 vy ⟨oy.1, fun d a q1 q2 => g1.there a (oy.2 d a q1 q2)⟩)
          | false =>
            rw [if_neg Bool.false_ne_true] at h1 ⊢
            exact h1.here R1 vx ox
    | Or =>
      refine WE.mk (pe_orT pe_we pe_we) ?_
      refine S.e O R (h.bind.imp fun x ρ1 G1 H1 _ g1 e1 R1 h1 vx ox => ?_)
      split at h1
      · exact h1.elim
      · rename_i kk e
        cases e3 : deref ρ1 x with
        | none => rw [e3] at e; cases e
        | some d =>
          rw [e3] at e
          refine ⟨kk, tru_ok' R1.ex e (ox.1.deref R1 e3), ?_⟩
          cases kk with
          | true =>
            rw [if_pos rfl] at h1 ⊢
            exact h1.here R1 vx ox
          | false =>
            rw [if_neg Bool.false_ne_true] at h1 ⊢
            exact S.e O R1 (h1.imp fun y ρ2 G2 H2 _ g2 e2 R2 h2 vy oy => h2 vy ⟨oy.1, fun d a q1 q2 => g1.there a (oy.2 d a q1 q2)⟩)
  · exact h.elim
theorem snd_ifx {c a b : Expr} {p : Pos} (O : XOk M N sc k X W) (R : Rep X.K G H σ ρ) (h : Post X.mg X.K W σ ρ G H (stepE M N E sc (.IfExp c a b p) ρ) (OutC X.K σ H Q)) : WE X (.IfExp c a b p) σ H Q := by
  simp only [stepE] at h
  refine WE.mk (pe_ifExp pt_wt pe_we pe_we) ?_
  refine S.t O R (h.bind.imp fun kk ρ1 G1 H1 _ g1 e1 R1 h1 => ?_)
  cases kk with
  | true =>
    rw [if_pos rfl] at h1 ⊢
    exact S.e O R1 (h1.imp fun y ρ2 G2 H2 _ g2 e2 R2 h2 vy oy => h2 vy ⟨oy.1, fun d a q1 q2 => g1.there a (oy.2 d a q1 q2)⟩)
  | false =>
    rw [if_neg Bool.false_ne_true] at h1 ⊢
    exact S.e O R1 (h1.imp fun y ρ2 G2 H2 _ g2 e2 R2 h2 vy oy => h2 vy ⟨oy.1, fun d a q1 q2 => g1.there a (oy.2 d a q1 q2)⟩)
end
end VE
end

section
set_option Elab.async false
set_option linter.all false
set_option maxRecDepth 100000
set_option maxHeartbeats 1000000
/-! VE4: comparisons, displays, subscripts, texts. -/
namespace VE
open PySem PySem.Spec L2

section
variable {M : Mdl} {N : List Str} {E : Ev} {sc : Scope} {k : Nat} {X : Cx} {W : WX} {σ : L2.St} {ρ : Ro} {G H : Hp} {Q : VK}
theorem bind2 {ρ : Ro} {x y : Bv} {β : Type} {f : D → D → Option β} {z : β} (h : ((deref ρ x).bind fun dx => (deref ρ y).bind fun dy => f dx dy) = some z) : ∃ dx dy, deref ρ x = some dx ∧ deref ρ y = some dy ∧ f dx dy = some z := by
  cases ex : deref ρ x with
  | none => rw [ex] at h; cases h
  | some wx =>
    cases ey : deref ρ y with
    | none => rw [ex, ey] at h; cases h
    | some wy =>
      rw [ex, ey] at h
      exact ⟨wx, wy, rfl, rfl, h⟩
theorem map_some {α β : Type} {o : Option α} {f : α → β} {z : β} (h : o.map f = some z) : ∃ w, o = some w ∧ f w = z := by
  cases o with
  | none => cases h
  | some w => exact ⟨w, rfl, Option.some.inj h⟩
theorem bind_some' {α β : Type} {o : Option α} {f : α → Option β} {z : β} (h : o.bind f = some z) : ∃ w, o = some w ∧ f w = some z := by
  cases o with
  | none => cases h
  | some w => exact ⟨w, rfl, h⟩
variable (S : Snd M N E)
include S
theorem snd_cmp1' {a b : Expr} {op : CmpOp} {p : Pos} (O : XOk M N sc k X W) (R : Rep X.K G H σ ρ) (h : Post X.mg X.K W σ ρ G H (stepE M N E sc (.Compare a [op] [b] p) ρ) (OutC X.K σ H Q)) :
    ∃ r : R2, OpR X (compareOp op) r ∧ behindInMarks op b = false ∧ tOp r (WE X a) (WE X b) σ H Q := by
  simp only [stepE] at h
  split at h
  · exact h.elim
  · rename_i hm
    have key : ∃ r : R2, OpR X (compareOp op) r ∧ WE X a σ H fun x H1 => WE X b σ H1 fun y H2 => r x y H2 Q := by
      refine ⟨fun x y H Q => ∃ r : R2, OpR X (compareOp op) r ∧ r x y H Q, fun pins s σ H x y v u Q I rx ry ⟨r, hr, q⟩ => hr pins s σ H x y v u Q I rx ry q, ?_⟩
      refine S.e O R (h.bind.imp fun x ρ1 G1 H1 _ g1 e1 R1 h1 vx ox => ?_)
      refine S.e O R1 (h1.bind.imp fun y ρ2 G2 H2 _ g2 e2 R2 h2 vy oy => ?_)
      obtain ⟨z, hz, h3⟩ := Post.of_none h2
      obtain ⟨dx, dy, ex, ey, hz⟩ := bind2 hz
      obtain ⟨w, ew, rfl⟩ := map_some hz
      obtain ⟨r, hr, hq⟩ := cmp_ok (X := X) O.room ew R2.ex ((ox.1.go g2 e2).deref R2 ex) (oy.1.deref R2 ey)
      exact ⟨r, hr, hq Q (out_val h3 R2 (.bl _))⟩
    obtain ⟨r, hr, q⟩ := key
    exact ⟨r, hr, by simpa using hm, q⟩
theorem snd_cmp1 {a b : Expr} {op : CmpOp} {p : Pos} (O : XOk M N sc k X W) (R : Rep X.K G H σ ρ) (h : Post X.mg X.K W σ ρ G H (stepE M N E sc (.Compare a [op] [b] p) ρ) (OutC X.K σ H Q)) : WE X (.Compare a [op] [b] p) σ H Q := by
  obtain ⟨r, hr, hm, q⟩ := snd_cmp1' S O R h
  exact WE.mk (pe_cmpR hr pe_we pe_we hm) q
theorem snd_cmp2' {a b c : Expr} {op op' : CmpOp} {p : Pos} (O : XOk M N sc k X W) (R : Rep X.K G H σ ρ) (h : Post X.mg X.K W σ ρ G H (stepE M N E sc (.Compare a [op, op'] [b, c] p) ρ) (OutC X.K σ H Q)) :
    ∃ r r' : R2, OpR X (compareOp op) r ∧ OpR X (compareOp op') r' ∧ lastMarks [op, op'] [b, c] = false ∧ tChain r r' (WE X a) (WE X b) (WE X c) σ H Q := by
  simp only [stepE] at h
  split at h
  · exact h.elim
  · rename_i hm
    have hm' : behindInMarks op b = false ∧ behindInMarks op' c = false := by simpa using hm
    have U : ∀ op : CmpOp, OpR X (compareOp op) fun x y H Q => ∃ r : R2, OpR X (compareOp op) r ∧ r x y H Q := fun op pins s σ H x y v u Q I rx ry ⟨r, hr, q⟩ => hr pins s σ H x y v u Q I rx ry q
    refine ⟨_, _, U op, U op', (show behindInMarks op' c = false from hm'.2), ?_⟩
    refine S.e O R (h.bind.imp fun x ρ1 G1 H1 _ g1 e1 R1 h1 vx ox => ?_)
    refine S.e O R1 (h1.bind.imp fun y ρ2 G2 H2 _ g2 e2 R2 h2 vy oy => ?_)
    split at h2
    · exact h2.elim
    · rename_i kk e
      obtain ⟨dx, dy, ex, ey, ew⟩ := bind2 e
      obtain ⟨r, hr, hq⟩ := cmp_ok (X := X) O.room ew R2.ex ((ox.1.go g2 e2).deref R2 ex) (oy.1.deref R2 ey)
      refine ⟨r, hr, hq _ ⟨kk, rfl, ?_⟩⟩
      cases kk with
      | false =>
        rw [if_neg Bool.false_ne_true] at h2 ⊢
        exact out_val h2 R2 (.bl _)
      | true =>
        rw [if_pos rfl] at h2 ⊢
        refine S.e O R2 (h2.bind.imp fun z ρ3 G3 H3 _ g3 e3 R3 h3 vz oz => ?_)
        obtain ⟨w, hw, h4⟩ := Post.of_none h3
        obtain ⟨dy', dz, ey', ez, hz⟩ := bind2 hw
        obtain ⟨u, eu, rfl⟩ := map_some hz
        obtain ⟨r', hr', hq'⟩ := cmp_ok (X := X) O.room eu R3.ex ((oy.1.go g3 e3).deref R3 ey') (oz.1.deref R3 ez)
        exact ⟨r', hr', hq' Q (out_val h4 R3 (.bl _))⟩
theorem snd_cmp2 {a b c : Expr} {op op' : CmpOp} {p : Pos} (O : XOk M N sc k X W) (R : Rep X.K G H σ ρ) (h : Post X.mg X.K W σ ρ G H (stepE M N E sc (.Compare a [op, op'] [b, c] p) ρ) (OutC X.K σ H Q)) : WE X (.Compare a [op, op'] [b, c] p) σ H Q := by
  obtain ⟨r, r', h1, h2, hm, q⟩ := snd_cmp2' S O R h
  exact WE.mk (pe_chain h1 h2 pe_we pe_we pe_we hm) q
theorem snd_tup {es : List Expr} {j : Nat} {p : Pos} (O : XOk M N sc k X W) (R : Rep X.K G H σ ρ) (h : Post X.mg X.K W σ ρ G H (stepE M N E sc (.Tuple es j p) ρ) (OutC X.K σ H Q)) : WE X (.Tuple es j p) σ H Q := by
  simp only [stepE] at h
  refine WE.mk (pe_tup pa_wa) ?_
  refine S.es O R (h.bind.imp fun ds ρ1 G1 H1 _ g1 e1 R1 h1 vs i => ?_)
  split at h1
  · rename_i c
    exact ⟨by rw [i.length]; exact of_decide_eq_true c, fun p hp => out_tup h1 R1 hp i⟩
  · exact h1.elim
theorem snd_lst {es : List Expr} {p : Pos} (O : XOk M N sc k X W) (R : Rep X.K G H σ ρ) (h : Post X.mg X.K W σ ρ G H (stepE M N E sc (.List es p) ρ) (OutC X.K σ H Q)) : WE X (.List es p) σ H Q := by
  simp only [stepE] at h
  refine WE.mk (pe_lst pa_wa) ?_
  refine S.es O R (h.bind.imp fun ds ρ1 G1 H1 _ g1 e1 R1 h1 vs i => ?_)
  split at h1
  · rename_i c
    exact ⟨by rw [i.length]; exact of_decide_eq_true c, fun p hp => out_lst h1 R1 hp (g1.there p hp) i⟩
  · exact h1.elim
theorem po_part (O : XOk M N sc k X W) {o : Option Expr} (R : Rep X.K G H σ ρ) {C : Option Int → Hp → Prop} (h : Post X.mg X.K W σ ρ G H (partS E sc o ρ) fun l _ _ H' => C l H') : ∃ t : TO, PO X o t ∧ t σ H C := by
  cases o with
  | none => exact ⟨_, po_none, h.here R⟩
  | some e =>
    refine ⟨_, po_some pe_we, ?_⟩
    refine S.e O R ((show Post X.mg X.K W σ ρ G H ((E.e sc e ρ).bind fun b ρ1 => (match deref ρ1 b with
      | some (.int i) => Rs.ok (some i) ρ1
      | _ => .stuck)) _ from h).bind.imp fun x ρ1 G1 H1 _ g1 e1 R1 h1 vx ox => ?_)
    split at h1
    · rename_i i e
      exact ⟨i, (ox.1.deref R1 e).int, h1.here R1⟩
    · exact h1.elim
theorem snd_ix {a s : Expr} {p : Pos} (hs : isSlice s = false) (O : XOk M N sc k X W) (R : Rep X.K G H σ ρ)
    (h : Post X.mg X.K W σ ρ G H ((E.e sc a ρ).bind fun x ρ1 => (E.e sc s ρ1).bind fun y ρ2 => Rs.of ((deref ρ2 x).bind fun dx => (deref ρ2 y).bind fun dy => (ixD dx dy).map fun z => Bv.va z false) ρ2) (OutC X.K σ H Q)) : WE X (.Subscript a s p) σ H Q := by
  have U : IxR X fun x y H Q => ∃ r : R2, IxR X r ∧ r x y H Q := fun va sl pins s σ H x y v u Q I rx ry ⟨r, hr, q⟩ hh => hr va sl pins s σ H x y v u Q I rx ry q hh
  refine WE.mk (pe_ix U pe_we pe_we (ix_plain hs)) ?_
  refine S.e O R (h.bind.imp fun x ρ1 G1 H1 _ g1 e1 R1 h1 vx ox => ?_)
  refine S.e O R1 (h1.bind.imp fun y ρ2 G2 H2 _ g2 e2 R2 h2 vy oy => ?_)
  obtain ⟨z, hz, h3⟩ := Post.of_none h2
  obtain ⟨dx, dy, ex, ey, hz⟩ := bind2 hz
  obtain ⟨w, ew, rfl⟩ := map_some hz
  obtain ⟨r, hr, hq⟩ := ix_ok (X := X) ew R2.ex ((ox.1.go g2 e2).deref R2 ex) (oy.1.deref R2 ey)
  exact ⟨r, hr, hq Q fun v i => out_val h3 R2 i⟩
theorem snd_cut {a : Expr} {lo hi : Option Expr} {p p2 : Pos} (O : XOk M N sc k X W) (R : Rep X.K G H σ ρ)
    (h : Post X.mg X.K W σ ρ G H (stepE M N E sc (.Subscript a (.Slice lo hi none p2) p) ρ) (OutC X.K σ H Q)) : WE X (.Subscript a (.Slice lo hi none p2) p) σ H Q := by
  simp only [stepE] at h
  have U : SlR X fun x l u H Q => ∃ r, SlR X r ∧ r x l u H Q := fun pins s σ H x v vl vu lo hi sl Q I rx hs hl hu ⟨r, hr, q⟩ => hr pins s σ H x v vl vu lo hi sl Q I rx hs hl hu q
  have P : ∀ o, PO X o fun σ H Q => ∃ t : TO, PO X o t ∧ t σ H Q := fun o => ⟨fun pins s σ H Q I ⟨t, ht, q⟩ => ht.run pins s σ H Q I q⟩
  refine WE.mk (pe_slice U pe_we (P lo) (P hi)) ?_
  refine S.e O R (h.bind.imp fun x ρ1 G1 H1 _ g1 e1 R1 h1 vx ox => ?_)
  refine po_part S O R1 (h1.bind.imp fun l ρ2 G2 H2 _ g2 e2 R2 h2 => ?_)
  refine po_part S O R2 (h2.bind.imp fun u ρ3 G3 H3 _ g3 e3 R3 h3 => ?_)
  obtain ⟨z, hz, h4⟩ := Post.of_none h3
  obtain ⟨dx, ex, hz⟩ := bind_some' hz
  obtain ⟨w, ew, rfl⟩ := map_some hz
  obtain ⟨r, hr, hq⟩ := cut_ok (X := X) (W := W) (z := w.1) (f := w.2) ew R3 (((ox.1.go g2 e2).go g3 e3).deref R3 ex) fun a ha => g1.there a (g2.there a (g3.there a ha))
  exact ⟨r, hr, hq Q h4⟩
theorem snd_fmt {v : Expr} {p : Pos} (O : XOk M N sc k X W) (R : Rep X.K G H σ ρ)
    (h : Post X.mg X.K W σ ρ G H ((E.e sc v ρ).bind fun x ρ1 => Rs.of (((deref ρ1 x).bind toStrD).map fun y => Bv.va (.str y) false) ρ1) (OutC X.K σ H Q)) : WE X (.FormattedValue v (-1) none p) σ H Q := by
  refine WE.mk (pe_fmt pe_we) ?_
  refine S.e O R (h.bind.imp fun x ρ1 G1 H1 _ g1 e1 R1 h1 vx ox => ?_)
  obtain ⟨z, hz, h3⟩ := Post.of_none h1
  obtain ⟨w, ew, rfl⟩ := map_some hz
  obtain ⟨d, ed, ew⟩ := bind_some' ew
  have a1 := ox.1.deref R1 ed
  cases d with
  | str y =>
    simp only [toStrD] at ew
    split at ew
    · rename_i c
      cases ew
      exact .inl ⟨_, a1.str, of_decide_eq_true c, out_val h3 R1 (.str _)⟩
    · cases ew
  | int i =>
    simp only [toStrD] at ew
    split at ew
    · rename_i c
      cases ew
      exact .inr ⟨_, a1.int, of_decide_eq_true c, out_val h3 R1 (.str _)⟩
    · cases ew
  | _ => cases ew
omit S in
theorem pj_all : ∀ es : List Expr, PJ X es (es.map fun e => WE X e)
  | [] => .nil
  | e :: es => .cons pe_we (pj_all es)
theorem snd_join (O : XOk M N sc k X W) {C : Str → Hp → Prop} : ∀ {es : List Expr} {acc : Str} {ρ : Ro} {G H : Hp}, Rep X.K G H σ ρ → Post X.mg X.K W σ ρ G H (joinL E sc es acc ρ) (fun w _ _ H' => C w H') → tJs (es.map fun e => WE X e) acc σ H C
  | [], acc, ρ, G, H, R, h => h.here R
  | e :: es, acc, ρ, G, H, R, h => by
    refine S.e O R ((show Post X.mg X.K W σ ρ G H ((E.e sc e ρ).bind fun b ρ1 => (match deref ρ1 b with
      | some (.str y) => if szOk (acc ++ y).length then joinL E sc es (acc ++ y) ρ1 else .stuck
      | _ => .stuck)) _ from h).bind.imp fun x ρ1 G1 H1 _ g1 e1 R1 h1 vx ox => ?_)
    split at h1
    · rename_i y ey
      split at h1
      · rename_i c
        exact ⟨y, (ox.1.deref R1 ey).str, of_decide_eq_true c, snd_join O R1 h1⟩
      · exact h1.elim
    · exact h1.elim
theorem snd_joined {a b : Expr} {r : List Expr} {p : Pos} (O : XOk M N sc k X W) (R : Rep X.K G H σ ρ) (h : Post X.mg X.K W σ ρ G H (stepE M N E sc (.JoinedStr (a :: b :: r) p) ρ) (OutC X.K σ H Q)) : WE X (.JoinedStr (a :: b :: r) p) σ H Q := by
  simp only [stepE] at h
  refine WE.mk (pe_joined (pj_all (a :: b :: r))) ?_
  refine snd_join S O (es := a :: b :: r) R (h.bind.imp fun w ρ1 G1 H1 _ g1 e1 R1 h1 => out_val h1 R1 (.str _))
/-! ### tests, displays' items, arguments -/
omit S in
theorem pw_of_pt {op : BoolOp} {vs : List Expr} {p : Pos} {t : TT} (h : PT X (.BoolOp op vs p) t) : PW X (.BoolOp op vs p) t := ⟨fun whole pins s σ H Q I q => by
  have e : ∀ w, PySem.isTrue (.BoolOp op vs p) X.env w = allTrue op vs X.env := fun w => by simp only [PySem.isTrue]
  have z := h.run pins s σ H Q I q
  rw [e] at z ⊢
  exact z⟩
theorem snd_t {e : Expr} {Q : Bool → Hp → Prop} (O : XOk M N sc k X W) (R : Rep X.K G H σ ρ) (h : Post X.mg X.K W σ ρ G H (stepT M N E sc e ρ) (fun b _ _ H' => Q b H')) : WT X e σ H Q := by
  have plain : plainTest e = true → Post X.mg X.K W σ ρ G H ((E.e sc e ρ).bind fun x ρ1 => Rs.of ((deref ρ1 x).bind truD) ρ1) (fun b _ _ H' => Q b H') → WT X e σ H Q := fun hp h => by
    refine WT.mk (pt_truth pe_we (test_plain hp)) ?_
    refine S.e O R (h.bind.imp fun x ρ1 G1 H1 _ g1 e1 R1 h1 vx ox => ?_)
    obtain ⟨z, hz, h3⟩ := Post.of_none h1
    obtain ⟨d, ed, ew⟩ := bind_some' hz
    exact ⟨z, tru_ok' R1.ex ew (ox.1.deref R1 ed), h3.here R1⟩
  cases e with
  | UnaryOp op a p =>
    cases op with
    | Not =>
      have h' : Post X.mg X.K W σ ρ G H ((E.t sc a ρ).bind fun b ρ1 => .ok (!b) ρ1) (fun b _ _ H' => Q b H') := h
      refine WT.mk (pt_not pt_wt) ?_
      exact S.t O R (h'.bind.imp fun b ρ1 G1 H1 _ g1 e1 R1 h1 => h1.here R1)
    | _ => exact plain rfl h
  | BoolOp op vs p =>
    have h' := h
    simp only [stepT] at h'
    split at h'
    · rename_i a
      cases op with
      | And => exact WT.mk (pw_and1 pt_wt).pt (S.t O R h')
      | Or => exact WT.mk (pw_or1 pt_wt).pt (S.t O R h')
    · rename_i a b r
      cases op with
      | And =>
        refine WT.mk (pw_and pt_wt (pw_of_pt pt_wt)).pt ?_
        refine S.t O R (h'.bind.imp fun kk ρ1 G1 H1 _ g1 e1 R1 h1 => ?_)
        cases kk with
        | true =>
          rw [if_pos rfl]
          exact S.t O R1 h1
        | false =>
          rw [if_neg Bool.false_ne_true]
          exact Post.here R1 (show Post X.mg X.K W σ ρ1 G1 H1 (.ok false ρ1) _ from h1)
      | Or =>
        refine WT.mk (pw_or pt_wt (pw_of_pt pt_wt)).pt ?_
        refine S.t O R (h'.bind.imp fun kk ρ1 G1 H1 _ g1 e1 R1 h1 => ?_)
        cases kk with
        | true =>
          rw [if_pos rfl]
          exact Post.here R1 (show Post X.mg X.K W σ ρ1 G1 H1 (.ok true ρ1) _ from h1)
        | false =>
          rw [if_neg Bool.false_ne_true]
          exact S.t O R1 h1
    · exact h'.elim
  | IfExp _ _ _ _ => exact (show False from h).elim
  | Compare a ops bs p =>
    have h' : Post X.mg X.K W σ ρ G H ((stepE M N E sc (.Compare a ops bs p) ρ).bind fun x ρ1 => (match x with
      | .va (.bl b) _ => Rs.ok b ρ1
      | _ => .stuck)) (fun b _ _ H' => Q b H') := h
    have h2 : Post X.mg X.K W σ ρ G H (stepE M N E sc (.Compare a ops bs p) ρ) (OutC X.K σ H fun v H' => ∃ kk, v = .bl kk ∧ Q kk H') := h'.bind.imp fun x ρ1 G1 H1 _ g1 e1 R1 h1 vx ox => by
      split at h1
      · exact ⟨_, (ox.1.deref R1 rfl).bl, h1.here R1⟩
      · exact h1.elim
    match ops, bs, h2 with
    | [op], [b], h2 =>
      obtain ⟨r, hr, hm, q⟩ := snd_cmp1' S O R h2
      exact WT.mk (pt_cmpR hr pe_we pe_we hm) q
    | [op, op'], [b, c], h2 =>
      obtain ⟨r, r', h1, h2, hm, q⟩ := snd_cmp2' S O R h2
      exact WT.mk (pt_chain h1 h2 pe_we pe_we pe_we hm) q
    | [], _, h2 => exact (show False from h2).elim
    | [_], [], h2 => exact (show False from h2).elim
    | [_], _ :: _ :: _, h2 => exact (show False from h2).elim
    | [_, _], [], h2 => exact (show False from h2).elim
    | [_, _], [_], h2 => exact (show False from h2).elim
    | [_, _], _ :: _ :: _ :: _, h2 => exact (show False from h2).elim
    | _ :: _ :: _ :: _, _, h2 => exact (show False from h2).elim
  | _ => exact plain rfl h
theorem snd_es {es : List Expr} {Q : List V → Hp → Prop} (O : XOk M N sc k X W) (R : Rep X.K G H σ ρ) (h : Post X.mg X.K W σ ρ G H (stepEs E sc es ρ) (fun ds _ G' H' => ∀ vs, IsL X.K G' vs ds → Q vs H')) : WA X es σ H Q := by
  cases es with
  | nil => exact WA.mk pa_nil (h.here R [] .nil)
  | cons e r =>
    simp only [stepEs] at h
    split at h
    · rename_i hs
      refine WA.mk (pa_cons pe_we pa_wa (star_cons hs)) ?_
      refine S.e O R (h.bindW.imp fun x ρ1 G1 H1 _ g1 e1 R1 h1 vx ox => ?_)
      obtain ⟨d, ρ2, G2, g2, e2, R2, i2, h2⟩ := h1 vx ox
      refine S.es O R2 (h2.bind.imp fun ds ρ3 G3 H3 _ g3 e3 R3 h3 vs i3 => ?_)
      exact h3.here R3 _ (.cons (i2.mono g3.g) i3)
    · exact h.elim
theorem snd_as {es : List Expr} {Q : List V → Hp → Prop} (O : XOk M N sc k X W) (R : Rep X.K G H σ ρ) (h : Post X.mg X.K W σ ρ G H (stepAs E sc es ρ) (fun bs _ G' H' => ∀ vs, DenA X.K G' σ vs bs → Q vs H')) : WA X es σ H Q := by
  cases es with
  | nil => exact WA.mk pa_nil (h.here R [] .nil)
  | cons e r =>
    simp only [stepAs] at h
    split at h
    · rename_i hs
      refine WA.mk (pa_cons pe_we pa_wa (star_cons hs)) ?_
      refine S.e O R (h.bind.imp fun x ρ1 G1 H1 eq g1 e1 R1 h1 vx ox => ?_)
      cases x with
      | «at» i =>
        refine S.as O R1 (h1.bind.imp fun bs ρ3 G3 H3 _ g3 e3 R3 h3 vs i3 => ?_)
        exact h3.here R3 _ (.at ox.1 i3)
      | va d f =>
        obtain ⟨G2, g2, e2, R2, i2⟩ := whole_of R1 g1 e1 ox (d := d) (ρ2 := ρ1) rfl
        have h0 := h
        rw [eq] at h0
        have h2 := Post.later (r := (E.as sc r ρ1).bind fun bs ρ3 => Rs.ok (Bv.va d false :: bs) ρ3) h0 g2 e2
        refine S.as O R2 (h2.bind.imp fun bs ρ3 G3 H3 _ g3 e3 R3 h3 vs i3 => ?_)
        exact h3.here R3 _ (.va (i2.mono g3.g) i3)
    · exact h.elim
end
end VE
end

section
set_option Elab.async false
set_option linter.all false
set_option maxRecDepth 100000
set_option maxHeartbeats 1000000
/-! VE5: calls. -/
namespace VE
open PySem PySem.Spec L2

theorem mapM_get {α β : Type} {f : α → Option β} : ∀ {l : List α} {r : List β}, l.mapM f = some r → r.length = l.length ∧ ∀ (i : Nat) (a : α), l[i]? = some a → ∃ b, f a = some b ∧ r[i]? = some b
  | [], r, h => by
    simp at h
    subst h
    exact ⟨rfl, fun i a e => by simp at e⟩
  | x :: l, r, h => by
    rw [List.mapM_cons] at h
    cases e1 : f x with
    | none => rw [e1] at h; cases h
    | some y =>
      rw [e1] at h
      cases e2 : l.mapM f with
      | none => rw [e2] at h; cases h
      | some ys =>
        rw [e2] at h
        cases h
        obtain ⟨h1, h2⟩ := mapM_get e2
        refine ⟨by simp [h1], fun i a e => ?_⟩
        cases i with
        | zero =>
          cases e
          exact ⟨y, e1, rfl⟩
        | succ i => exact h2 i a (by simpa using e)
theorem DenA.len {K : PySem.W.Frag} {G : Hp} {σ : L2.St} : ∀ {vs : List V} {bs : List Bv}, DenA K G σ vs bs → vs.length = bs.length
  | _, _, .nil => rfl
  | _, _, .at _ r => congrArg Nat.succ r.len
  | _, _, .va _ r => congrArg Nat.succ r.len
theorem DenA.get_at {K : PySem.W.Frag} {G : Hp} {σ : L2.St} : ∀ {vs : List V} {bs : List Bv} {i p : Nat}, DenA K G σ vs bs → bs[i]? = some (.at p) → ∃ v, vs[i]? = some v ∧ σ[p]? = some (some v)
  | _, _, i, p, .nil, e => by simp at e
  | _, _, 0, p, .at h r, e => by
    cases e
    exact ⟨_, rfl, h⟩
  | _, _, i + 1, p, .at h r, e => DenA.get_at (i := i) r (by simpa using e)
  | _, _, 0, p, .va h r, e => by cases e
  | _, _, i + 1, p, .va h r, e => DenA.get_at (i := i) r (by simpa using e)
theorem DenA.get_va {K : PySem.W.Frag} {G : Hp} {σ : L2.St} {d : D} {f : Bool} : ∀ {vs : List V} {bs : List Bv} {i : Nat}, DenA K G σ vs bs → bs[i]? = some (.va d f) → ∃ v, vs[i]? = some v ∧ Is K G v d
  | _, _, i, .nil, e => by simp at e
  | _, _, 0, .at h r, e => by cases e
  | _, _, i + 1, .at h r, e => DenA.get_va (i := i) r (by simpa using e)
  | _, _, 0, .va h r, e => by
    cases e
    exact ⟨_, rfl, h⟩
  | _, _, i + 1, .va h r, e => DenA.get_va (i := i) r (by simpa using e)
theorem ats_mem {ρ : Ro} {p : Nat} {m : Md} {d : D} (hp : ρ[p]? = some (.ow m d)) : ∀ {bs : List Bv} {i : Nat}, bs[i]? = some (.at p) → p ∈ atsOf ρ bs
  | [], i, h => by simp at h
  | .at q :: r, 0, h => by
    cases h
    simp only [atsOf, hp]
    exact List.mem_cons_self
  | .at q :: r, i + 1, h => by
    have z := ats_mem hp (bs := r) (i := i) (by simpa using h)
    simp only [atsOf]
    split
    · exact List.mem_cons_of_mem _ z
    · exact z
  | .va _ _ :: r, 0, h => by cases h
  | .va _ _ :: r, i + 1, h => by
    simp only [atsOf]
    exact ats_mem hp (bs := r) (i := i) (by simpa using h)
theorem ats_inj {ρ : Ro} {p : Nat} {m : Md} {d : D} (hp : ρ[p]? = some (.ow m d)) : ∀ {bs : List Bv} {i j : Nat}, (atsOf ρ bs).Nodup → bs[i]? = some (.at p) → bs[j]? = some (.at p) → i = j
  | [], i, j, _, h, _ => by simp at h
  | .at q :: r, 0, 0, _, _, _ => rfl
  | .at q :: r, 0, j + 1, n, h, h2 => by
    cases h
    simp only [atsOf, hp] at n
    exact absurd (ats_mem hp (i := j) (by simpa using h2)) (List.nodup_cons.mp n).1
  | .at q :: r, i + 1, 0, n, h, h2 => by
    cases h2
    simp only [atsOf, hp] at n
    exact absurd (ats_mem hp (i := i) (by simpa using h)) (List.nodup_cons.mp n).1
  | .at q :: r, i + 1, j + 1, n, h, h2 => by
    refine congrArg Nat.succ (ats_inj hp (bs := r) (i := i) (j := j) ?_ (by simpa using h) (by simpa using h2))
    simp only [atsOf] at n
    split at n
    · exact (List.nodup_cons.mp n).2
    · exact n
  | .va _ _ :: r, 0, _, _, h, _ => by cases h
  | .va _ _ :: r, _ + 1, 0, _, _, h => by cases h
  | .va _ _ :: r, i + 1, j + 1, n, h, h2 => congrArg Nat.succ (ats_inj hp (bs := r) (i := i) (j := j) (by simpa only [atsOf] using n) (by simpa using h) (by simpa using h2))
theorem findArg_some {p : Nat} {a : Sl} : ∀ {bs : List Bv} {as : List Sl}, findArg p bs as = some a → ∃ i : Nat, bs[i]? = some (Bv.at p) ∧ as[i]? = some a
  | [], as, h => by cases as <;> cases h
  | .at q :: bs, [], h => by cases h
  | .at q :: bs, x :: as, h => by
    simp only [findArg] at h
    split at h
    · rename_i e
      cases h
      subst e
      exact ⟨0, rfl, rfl⟩
    · obtain ⟨i, h1, h2⟩ := findArg_some h
      exact ⟨i + 1, by simpa using h1, by simpa using h2⟩
  | .va _ _ :: bs, [], h => by cases h
  | .va _ _ :: bs, x :: as, h => by
    obtain ⟨i, h1, h2⟩ := findArg_some (bs := bs) (as := as) h
    exact ⟨i + 1, by simpa using h1, by simpa using h2⟩
theorem findArg_none {p : Nat} : ∀ {bs : List Bv} {as : List Sl} {i : Nat}, findArg p bs as = none → bs[i]? = some (.at p) → as[i]? = none
  | [], as, i, _, e => by simp at e
  | .at q :: bs, [], i, _, _ => by simp
  | .at q :: bs, x :: as, 0, h, e => by
    cases e
    simp [findArg] at h
  | .at q :: bs, x :: as, i + 1, h, e => by
    simp only [findArg] at h
    split at h
    · cases h
    · simpa using findArg_none (i := i) h (by simpa using e)
  | .va _ _ :: bs, [], i, _, _ => by simp
  | .va _ _ :: bs, x :: as, 0, h, e => by cases e
  | .va _ _ :: bs, x :: as, i + 1, h, e => by simpa using findArg_none (bs := bs) (as := as) (i := i) h (by simpa using e)
theorem give_get {bs : List Bv} {as : List Sl} {ρ : Ro} {p : Nat} : (giveBack bs as ρ)[p]? = ρ[p]?.map fun s => comb s (findArg p bs as) := by
  unfold giveBack
  rw [List.getElem?_mapIdx]

section
variable {K : PySem.W.Frag} {G H : Hp} {σ : L2.St} {ρ : Ro} {vs us : List V} {bs : List Bv} {sls : List Sl} {ds : List D}
/-- a lent place -/
theorem lend_ow {m : Md} {d : D} {i : Nat} (hl : bs.mapM (lend1 ρ) = some sls) (h : sls[i]? = some (.ow m d)) : ∃ p m0, bs[i]? = some (.at p) ∧ ρ[p]? = some (.ow m0 d) ∧ (m = .lck ↔ m0 = .lck) := by
  obtain ⟨h1, h2⟩ := mapM_get hl
  cases e : bs[i]? with
  | none =>
    have z : sls[i]? = none := by
      rw [List.getElem?_eq_none_iff] at e ⊢
      omega
    rw [z] at h
    cases h
  | some b =>
    obtain ⟨s, e1, e2⟩ := h2 i b e
    rw [h] at e2
    cases e2
    cases b with
    | va d' f => cases e1
    | «at» p =>
      simp only [lend1] at e1
      split at e1
      · cases e1
      · cases e1
      · rename_i d' q
        cases e1
        exact ⟨p, .own, rfl, q, by simp⟩
      · rename_i d' q
        cases e1
        exact ⟨p, .par, rfl, q, by simp⟩
      · rename_i d' q
        cases e1
        exact ⟨p, .lck, rfl, q, by simp⟩
      · cases e1
theorem lend_at {p i : Nat} {m : Md} {d : D} (hl : bs.mapM (lend1 ρ) = some sls) (hb : bs[i]? = some (.at p)) (hp : ρ[p]? = some (.ow m d)) : sls[i]? = some (.ow (if m = .lck then .lck else .par) d) := by
  obtain ⟨h1, h2⟩ := mapM_get hl
  obtain ⟨s, e1, e2⟩ := h2 i _ hb
  simp only [lend1, hp] at e1
  cases m <;> (cases e1; exact e2)
theorem app_get {α : Type} {l r : List α} {i : Nat} {a : α} (h : (l ++ r)[i]? = some a) : (i < l.length ∧ l[i]? = some a) ∨ (l.length ≤ i ∧ r[i - l.length]? = some a) := by
  by_cases e : i < l.length
  · rw [List.getElem?_append_left e] at h
    exact .inl ⟨e, h⟩
  · rw [List.getElem?_append_right (by omega)] at h
    exact .inr ⟨by omega, h⟩
theorem fz_get {i : Nat} {s : Sl} (h : (ds.map Sl.fz)[i]? = some s) : ∃ d, ds[i]? = some d ∧ s = .fz d := by
  rw [List.getElem?_map] at h
  cases e : ds[i]? with
  | none => rw [e] at h; cases h
  | some d =>
    rw [e] at h
    exact ⟨d, rfl, (Option.some.inj h).symm⟩
/-- an argument that is a list of its own -/
theorem arg_ow {i : Nat} {a : Addr} (hv : DenA K G σ vs bs) (hl : bs.mapM (lend1 ρ) = some sls) (h : OwAt ((vs ++ us).map some) (sls ++ ds.map .fz) i a) : ∃ p m m0 d, bs[i]? = some (.at p) ∧ sls[i]? = some (.ow m d) ∧ ρ[p]? = some (.ow m0 d) ∧ (m = .lck ↔ m0 = .lck) ∧ σ[p]? = some (some (.ref a)) := by
  obtain ⟨m, d, h1, h2⟩ := h
  rcases app_get h1 with ⟨hi, h1⟩ | ⟨_, h1⟩
  · obtain ⟨p, m0, e1, e2, e3⟩ := lend_ow hl h1
    obtain ⟨v, e4, e5⟩ := hv.get_at e1
    refine ⟨p, m, m0, d, e1, h1, e2, e3, ?_⟩
    have hlen := (mapM_get hl).1
    have hl2 := hv.len
    rw [List.getElem?_map, List.getElem?_append_left (by omega), e4] at h2
    have e : v = .ref a := Option.some.inj (Option.some.inj h2)
    rw [e5, e]
  · obtain ⟨d', _, e⟩ := fz_get h1
    cases e
theorem lend_rep (R : Rep K G H σ ρ) (hv : DenA K G σ vs bs) (hl : bs.mapM (lend1 ρ) = some sls) (hn : (atsOf ρ bs).Nodup) (hd : IsL K G us ds) : Rep K G H ((vs ++ us).map some) (sls ++ ds.map .fz) := by
  have l1 := (mapM_get hl).1
  have l2 := hv.len
  have l3 := hd.length
  refine ⟨R.ex, by simp; omega, fun i s e => ?_, fun i j a o1 o2 => ?_⟩
  · rcases app_get e with ⟨hi, e⟩ | ⟨hi, e⟩
    · rw [List.getElem?_map, List.getElem?_append_left (by omega)]
      cases eb : bs[i]? with
      | none => rw [List.getElem?_eq_none_iff] at eb; omega
      | some b =>
        obtain ⟨s', e1, e2⟩ := (mapM_get hl).2 i b eb
        rw [e] at e2
        cases e2
        cases b with
        | va d f =>
          cases e1
          obtain ⟨v, e3, e4⟩ := hv.get_va eb
          rw [e3]
          exact ⟨v, rfl, e4⟩
        | «at» p =>
          obtain ⟨v, e3, e4⟩ := hv.get_at eb
          rw [e3]
          simp only [lend1] at e1
          split at e1
          · rename_i d q
            cases e1
            obtain ⟨v', z1, z2⟩ := R.sl p _ q
            rw [e4] at z1
            cases z1
            exact ⟨v, rfl, z2⟩
          · rename_i d q
            cases e1
            obtain ⟨a, xs, es, z1, rfl, z3, z4⟩ := R.sl p _ q
            rw [e4] at z1
            cases z1
            exact ⟨.ref a, rfl, .lst z3 z4⟩
          · rename_i d q
            cases e1
            obtain ⟨a, z1, z2⟩ := R.sl p _ q
            rw [e4] at z1
            cases z1
            exact ⟨a, rfl, z2⟩
          · rename_i d q
            cases e1
            obtain ⟨a, z1, z2⟩ := R.sl p _ q
            rw [e4] at z1
            cases z1
            exact ⟨a, rfl, z2⟩
          · rename_i d q
            cases e1
            obtain ⟨a, z1, z2⟩ := R.sl p _ q
            rw [e4] at z1
            cases z1
            exact ⟨a, rfl, z2⟩
          · cases e1
    · obtain ⟨d, e1, rfl⟩ := fz_get e
      obtain ⟨v, e2, e3⟩ := hd.get e1
      rw [List.getElem?_map, List.getElem?_append_right (by omega), l2, ← l1, e2]
      exact ⟨v, rfl, e3⟩
  · obtain ⟨p, m, m0, d, a1, a2, a3, _, a4⟩ := arg_ow hv hl o1
    obtain ⟨q, n, n0, d', b1, b2, b3, _, b4⟩ := arg_ow hv hl o2
    have e : p = q := R.dj p q a ⟨m0, d, a3, a4⟩ ⟨n0, d', b3, b4⟩
    subst e
    exact ats_inj a3 hn a1 b1
/-- behind a call: what was lent is back -/
theorem call_back {G' H' : Hp} {as : List Sl} (R : Rep K G H σ ρ) (hv : DenA K G σ vs bs) (hl : bs.mapM (lend1 ρ) = some sls) (hn : (atsOf ρ bs).Nodup) (hd : IsL K G us ds)
    (g : Go ((vs ++ us).map some) (sls ++ ds.map .fz) G H ((vs ++ us).map some) as G' H') (R' : Rep K G' H' ((vs ++ us).map some) as) :
    Go σ ρ G H σ (giveBack bs as ρ) G' H' ∧ Evo ρ (giveBack bs as ρ) ∧ Rep K G' H' σ (giveBack bs as ρ) := by
  have l1 := (mapM_get hl).1
  have l2 := hv.len
  have l3 := hd.length
  have l4 : as.length = sls.length + ds.length := by
    have := R'.len
    simp at this
    omega
  -- a lent slot's argument
  have lent : ∀ {p i : Nat} {m : Md} {d : D}, bs[i]? = some (.at p) → ρ[p]? = some (.ow m d) → (sls ++ ds.map .fz)[i]? = some (.ow (if m = .lck then .lck else .par) d) := fun {p i m d} hb hp => by
    have z := lend_at hl hb hp
    have hi : i < sls.length := by
      rcases Nat.lt_or_ge i sls.length with h | h
      · exact h
      · rw [List.getElem?_eq_none_iff.mpr h] at z
        cases z
    rw [List.getElem?_append_left hi]
    exact z
  have lentV : ∀ {p i : Nat}, bs[i]? = some (.at p) → ((vs ++ us).map some)[i]? = σ[p]? := fun {p i} hb => by
    obtain ⟨v, e1, e2⟩ := hv.get_at hb
    have hi : i < vs.length := by
      rcases Nat.lt_or_ge i vs.length with h | h
      · exact h
      · rw [List.getElem?_eq_none_iff.mpr h] at e1
        cases e1
    rw [List.getElem?_map, List.getElem?_append_left hi, e1, e2]
    rfl
  have moSub : ∀ a, Mo ((vs ++ us).map some) (sls ++ ds.map .fz) a → Mo σ ρ a := fun a mo => by
    obtain ⟨i, m, d, n, e1, e2⟩ := mo
    obtain ⟨p, m', m0, d', a1, a2, a3, a4, a5⟩ := arg_ow hv hl ⟨m, d, e1, e2⟩
    rcases app_get e1 with ⟨_, e1⟩ | ⟨_, e1⟩
    · rw [e1] at a2
      cases a2
      exact ⟨p, m0, _, fun z => n (a4.mpr z), a3, a5⟩
    · obtain ⟨_, _, e⟩ := fz_get e1
      cases e
  -- each slot, behind
  have slot : ∀ (p : Nat) (s : Sl), ρ[p]? = some s → ∃ s', (giveBack bs as ρ)[p]? = some s' ∧ SlOk K G' H' σ[p]? s' ∧ (pinned s = true → PinTo s s') ∧ (∀ m d', s' = .ow m d' → ∃ d, s = .ow m d) := fun p s hp => by
    refine ⟨comb s (findArg p bs as), by rw [give_get, hp]; rfl, ?_⟩
    have old := R.sl p s hp
    cases s with
    | un => exact ⟨old, (fun z => by cases z), (fun _ _ z => by cases z)⟩
    | fz d => exact ⟨old.later g.g (fun _ _ _ z => by cases z), (fun z => by cases z), (fun _ _ z => by cases z)⟩
    | pz d => exact ⟨old.later g.g (fun _ _ _ z => by cases z), fun _ => rfl, (fun _ _ z => by cases z)⟩
    | ow m d =>
      cases ef : findArg p bs as with
      | none =>
        have nl : ∀ i : Nat, bs[i]? ≠ some (Bv.at p) := fun i hb => by
          have z := findArg_none ef hb
          have z2 := lent hb hp
          rw [List.getElem?_eq_none_iff] at z
          have z3 : (sls ++ ds.map .fz)[i]? = none := List.getElem?_eq_none_iff.mpr (by simp; omega)
          rw [z3] at z2
          cases z2
        have e : comb (.ow m d) none = .ow m d := by cases m <;> rfl
        rw [e]
        obtain ⟨a, ea, c⟩ := old
        refine ⟨⟨a, ea, c.keep g fun mo => ?_⟩, fun _ => PinTo.refl _, fun m' d' z => ⟨d', z⟩⟩
        obtain ⟨i, o⟩ := mo_ow mo
        obtain ⟨q, m', m0, d', a1, a2, a3, a4, a5⟩ := arg_ow hv hl o
        have e2 : p = q := R.dj p q a ⟨m, d, hp, ea⟩ ⟨m0, d', a3, a5⟩
        subst e2
        exact nl i a1
      | some x =>
        obtain ⟨i, hb, ha⟩ := findArg_some ef
        have hs := lent hb hp
        have sx := R'.sl i x ha
        rw [lentV hb] at sx
        obtain ⟨_, s2, hs2, pin⟩ := g.pin i _ hs (by cases m <;> rfl)
        rw [ha] at hs2
        cases hs2
        cases m with
        | own =>
          rcases pin with ⟨d', e⟩ | ⟨d', e⟩
          · subst e
            exact ⟨sx, (fun z => by cases z), (fun m' d'' z => by cases z; exact ⟨d, rfl⟩)⟩
          · subst e
            obtain ⟨a, xs, es, z1, z2, z3, z4⟩ := sx
            subst z2
            exact ⟨⟨.ref a, z1, .lst z3 z4⟩, (fun z => by cases z), (fun m' d'' z => by cases z)⟩
        | par =>
          rcases pin with ⟨d', e⟩ | ⟨d', e⟩
          · subst e
            exact ⟨sx, fun _ => .inl ⟨d', rfl⟩, (fun m' d'' z => by cases z; exact ⟨d, rfl⟩)⟩
          · subst e
            exact ⟨sx, fun _ => .inr ⟨d', rfl⟩, (fun m' d'' z => by cases z)⟩
        | lck =>
          have e : x = .ow .lck d := pin
          subst e
          exact ⟨sx, fun _ => rfl, (fun m' d'' z => by cases z; exact ⟨d, rfl⟩)⟩
  have len : (giveBack bs as ρ).length = ρ.length := by
    unfold giveBack
    rw [List.length_mapIdx]
  have back : ∀ (p : Nat) (s' : Sl), (giveBack bs as ρ)[p]? = some s' → ∃ s, ρ[p]? = some s := fun p s' h => by
    rw [give_get] at h
    cases e : ρ[p]? with
    | none => rw [e] at h; cases h
    | some s => exact ⟨s, rfl⟩
  have evo : Evo ρ (giveBack bs as ρ) := ⟨len, fun p m d' h => by
    obtain ⟨s, hs⟩ := back p _ h
    obtain ⟨s', e1, _, _, e4⟩ := slot p s hs
    rw [h] at e1
    cases e1
    obtain ⟨d, e⟩ := e4 m d' rfl
    exact ⟨d, by rw [hs, e]⟩, fun p s hp n => by
    rw [give_get, hp]
    cases s <;> first | rfl | cases n⟩
  refine ⟨⟨g.g, fun a o e n => g.keep a o e fun mo => n (moSub a mo), fun a o e z n => g.fr a o e z fun mo => n (moSub a mo), fun a mo => ?_, fun p s e pn => ?_, g.there⟩, evo, ⟨R'.ex, R.len.trans len.symm, fun p s' h => ?_, fun i j a o1 o2 => R.dj i j a (o1.evo evo) (o2.evo evo)⟩⟩
  · obtain ⟨i, m, d, n, e1, e2⟩ := mo
    obtain ⟨d', e3⟩ := evo.2 i m d e1
    exact .inl ⟨i, m, d', n, e3, e2⟩
  · obtain ⟨s', e1, _, e3, _⟩ := slot p s e
    exact ⟨rfl, s', e1, e3 pn⟩
  · obtain ⟨s, hs⟩ := back p _ h
    obtain ⟨s2, e1, e2, _, _⟩ := slot p s hs
    rw [h] at e1
    cases e1
    exact e2
end
end VE
end

section
set_option Elab.async false
set_option linter.all false
set_option maxRecDepth 100000
set_option maxHeartbeats 1000000
/-! VE6: calls in expressions. -/
namespace VE
open PySem PySem.Spec L2

section
variable {M : Mdl} {N : List Str} {E : Ev} {sc : Scope} {k : Nat} {X : Cx} {W : WX} {σ : L2.St} {ρ : Ro} {G H : Hp} {Q : VK} (S : Snd M N E)
include S
omit S in
theorem isFree_mg (O : XOk M N sc k X W) {f : Str} (h : isFree M sc f = true) : Gl X f ∧ X.mg f = none ∧ nameOk f = true := by
  obtain ⟨h1, h2⟩ := Bool.and_eq_true_iff.mp h
  refine ⟨O.glo h1, ?_, glo_name h1⟩
  split at h2
  · rename_i e
    exact O.md.free f e
  · cases h2
theorem snd_own {f : Str} {a : Expr} {r : List Expr} {p p2 : Pos} {ds : List D} (O : XOk M N sc k X W) (R : Rep X.K G H σ ρ) (hg : gloK sc f = true) (hs : (a :: r).all notStar = true) (hf : M.glob f = .fn) (ed : M.dfl f (a :: r).length = some ds)
    (h : Post X.mg X.K W σ ρ G H ((E.as sc (a :: r) ρ).bind fun bs ρ1 => (match lend ρ1 bs with
      | none => .stuck
      | some sls => (match M.call f (sls ++ ds.map .fz) with
          | .stuck => .stuck
          | .ret d b as => .ok (.va d b) (giveBack bs as ρ1)
          | .exc c fs as => .exc c fs (giveBack bs as ρ1)))) (OutC X.K σ H Q)) : WE X (.Call (.Name f p) (a :: r) [] p2) σ H Q := by
  obtain ⟨fa, fd, ps, hm, hk, F, hlen, hb, _⟩ := O.md.fn f hf
  have hs' : notStar a = true ∧ r.all notStar = true := by simpa using hs
  obtain ⟨us, dvs, hB, hV, hI⟩ := hb _ ds ed
  refine WE.mk (pe_callSD F O.room (O.glo hg) hm hk hB hV (fun σ => passAt O.tk σ) pa_wa (nameOk_dbg (glo_name hg)) (star_cons hs'.1) (star_none hs'.2)) ?_
  refine S.as O R (h.bind.imp fun bs ρ1 G1 H1 _ g1 e1 R1 h1 vs hv => ?_)
  cases el : lend ρ1 bs with
  | none => rw [el] at h1; exact h1.elim
  | some sls =>
    rw [el] at h1
    unfold lend at el
    split at el
    · rename_i hn
      have hn' := of_decide_eq_true hn
      have RA := lend_rep R1 hv el hn' (hI G1)
      have l1 := (mapM_get el).1
      have l2 := hv.len
      have l3 := (hI G1).length
      have hc : M.call f (sls ++ ds.map .fz) ≠ .stuck → (vs ++ dvs).length = ps.length := fun ne => by
        have := hlen _ ne
        simp at this ⊢
        omega
      cases ec : M.call f (sls ++ ds.map .fz) with
      | stuck => simp only [ec] at h1; exact h1.elim
      | ret d b as =>
        simp only [ec] at h1
        refine ⟨G1, sls ++ ds.map .fz, hc (by rw [ec]; exact fun z => by cases z), RA, ?_⟩
        rw [ec]
        intro v G' H' go R' ok
        obtain ⟨go2, ev, R2⟩ := call_back R1 hv el hn' (hI G1) go R'
        refine h1 G' H' go2 ev R2 v ?_
        cases b with
        | false => exact ⟨ok, fun _ _ z _ => by cases z⟩
        | true =>
          obtain ⟨x, rfl, hx, c⟩ := ok
          exact ⟨⟨x, rfl, c, fun i o => new_un R1 hx i (o.evo ev)⟩, fun _ y _ z => by cases z; exact g1.there x hx⟩
      | exc c fs as =>
        simp only [ec] at h1
        refine ⟨G1, sls ++ ds.map .fz, hc (by rw [ec]; exact fun z => by cases z), RA, ?_⟩
        rw [ec]
        intro cls dd G' H' go R' xi
        obtain ⟨go2, ev, R2⟩ := call_back R1 hv el hn' (hI G1) go R'
        exact h1 cls dd G' H' go2 ev R2 xi
    · cases el
omit S in
theorem bi_kind {f : Str} {b : Bool} (h : biK f = some b) : (b = true → ∃ id, bootBuiltins f = some (.builtin id)) ∧ (b = false → ∃ T, bootBuiltins f = some (.type T)) := by
  unfold biK at h
  split at h
  · rename_i c
    cases h
    refine ⟨fun _ => ?_, (fun z => by cases z)⟩
    simp only [List.contains_cons, List.contains_nil, Bool.or_eq_true, beq_iff_eq, Bool.false_eq_true, or_false] at c
    rcases c with rfl | rfl | rfl | rfl | rfl | rfl | rfl
    · exact ⟨_, PySem.boot_len⟩
    · exact ⟨"abs", by decide +kernel⟩
    · exact ⟨"sum", by decide +kernel⟩
    · exact ⟨"any", by decide +kernel⟩
    · exact ⟨"all", by decide +kernel⟩
    · exact ⟨"max", by decide +kernel⟩
    · exact ⟨"min", by decide +kernel⟩
  · split at h
    · rename_i c
      cases h
      refine ⟨(fun z => by cases z), fun _ => ?_⟩
      simp only [List.contains_cons, List.contains_nil, Bool.or_eq_true, beq_iff_eq, Bool.false_eq_true, or_false] at c
      rcases c with rfl | rfl | rfl | rfl
      · exact ⟨"int", by decide +kernel⟩
      · exact ⟨"str", by decide +kernel⟩
      · exact ⟨"tuple", by decide +kernel⟩
      · exact ⟨"list", by decide +kernel⟩
    · cases h
theorem snd_bi {f : Str} {a : Expr} {r : List Expr} {p p2 : Pos} {b : Bool} (O : XOk M N sc k X W) (R : Rep X.K G H σ ρ) (hg : gloK sc f = true) (hs : (a :: r).all notStar = true) (hf : M.glob f = .free) (hb : biK f = some b)
    (h : Post X.mg X.K W σ ρ G H ((E.as sc (a :: r) ρ).bind fun bs ρ1 => Rs.of (((bs.mapM (deref ρ1)).bind (biD f)).map fun z => Bv.va z.1 z.2) ρ1) (OutC X.K σ H Q)) : WE X (.Call (.Name f p) (a :: r) [] p2) σ H Q := by
  have hs' : notStar a = true ∧ r.all notStar = true := by simpa using hs
  have hm := O.md.free f hf
  -- one of the two rules
  have key : WA X (a :: r) σ H fun vs H1 => (∃ id r', bootBuiltins f = some (.builtin id) ∧ CallR X (.builtin id) r' ∧ r' vs H1 Q) ∨ (∃ T r', bootBuiltins f = some (.type T) ∧ CallR X (.type T) r' ∧ r' vs H1 Q) := by
    refine S.as O R (h.bind.imp fun bs ρ1 G1 H1 _ g1 e1 R1 h1 vs hv => ?_)
    obtain ⟨z, hz, h3⟩ := Post.of_none h1
    obtain ⟨w, hw, rfl⟩ := map_some hz
    obtain ⟨ds, hd, hw⟩ := bind_some' hw
    rcases bi_ok (X := X) (W := W) (z := w.1) (f := w.2) hw O.calm R1 (hv.deref R1 hd) (fun a ha => g1.there a ha) with ⟨id, r', b1, b2, b3⟩ | ⟨id, r', b1, b2, b3⟩
    · exact .inl ⟨id, r', b1, b2, b3 Q h3⟩
    · exact .inr ⟨id, r', b1, b2, b3 Q h3⟩
  cases b with
  | true =>
    obtain ⟨id, eb⟩ := (bi_kind hb).1 rfl
    have U : CallR X (.builtin id) fun vs H Q => (∃ id' r', bootBuiltins f = some (.builtin id') ∧ CallR X (.builtin id') r' ∧ r' vs H Q) ∨ (∃ T r', bootBuiltins f = some (.type T) ∧ CallR X (.type T) r' ∧ r' vs H Q) := fun pins s σ H xs us Q I rx q => by
      rcases q with ⟨id', r', b1, b2, b3⟩ | ⟨id', r', b1, b2, b3⟩
      · rw [eb] at b1
        cases b1
        exact b2 pins s σ H xs us Q I rx b3
      · rw [eb] at b1
        cases b1
    exact WE.mk (pe_callB U (O.glo hg) hm eb pa_wa (nameOk_nm (glo_name hg)) (nameOk_dbg (glo_name hg)) (star_cons hs'.1) (star_none hs'.2)) key
  | false =>
    obtain ⟨id, eb⟩ := (bi_kind hb).2 rfl
    have U : CallR X (.type id) fun vs H Q => (∃ id' r', bootBuiltins f = some (.builtin id') ∧ CallR X (.builtin id') r' ∧ r' vs H Q) ∨ (∃ T r', bootBuiltins f = some (.type T) ∧ CallR X (.type T) r' ∧ r' vs H Q) := fun pins s σ H xs us Q I rx q => by
      rcases q with ⟨id', r', b1, b2, b3⟩ | ⟨id', r', b1, b2, b3⟩
      · rw [eb] at b1
        cases b1
      · rw [eb] at b1
        cases b1
        exact b2 pins s σ H xs us Q I rx b3
    exact WE.mk (pe_callTy U (O.glo hg) hm eb pa_wa (nameOk_nm (glo_name hg)) (nameOk_dbg (glo_name hg)) (star_cons hs'.1) (star_none hs'.2)) key
/-! ### isinstance -/
omit S in
theorem ty_of {K : PySem.W.Frag} {v : V} {d : D} {t : String} (ex : Same G H) (h : tyD d = some t) (a : At K G H v d) : TyX K H v (.type t) := by
  cases d with
  | non => cases h; rw [a.non]; exact .base .non
  | bl b => cases h; rw [a.bl]; exact .base (.bl b)
  | int i => cases h; rw [a.int]; exact .base (.int i)
  | str s => cases h; rw [a.str]; exact .base (.str s)
  | tup ds =>
    cases h
    obtain ⟨p, us, rfl, q, _⟩ := a.tup ex
    rcases q with (q | ⟨o, q⟩) | ⟨o, its, n, q1, q2, _⟩
    · exact .base (.tup q)
    · exact .fTuple q
    · exact .kTuple q1 q2
  | lst ds =>
    cases h
    obtain ⟨p, us, rfl, q, _⟩ := a.lst ex
    exact .base (.lst q)
  | scr ds => cases h
  | obj c fs => cases h
omit S in
theorem type_name {x : Str} (h : typeNames.contains x = true) : bootBuiltins x = some (.type x.toString) := by
  simp only [typeNames, List.contains_cons, List.contains_nil, Bool.or_eq_true, beq_iff_eq, Bool.false_eq_true, or_false] at h
  rcases h with rfl | rfl | rfl | rfl | rfl | rfl <;> decide +kernel
omit S in
theorem isi_any {K : PySem.W.Frag} {t : String} : ∀ {xs : List Str} {b : Bool}, isiD t xs = some b → PySem.W.kitAny K (.type t) (xs.map fun x => Value.type x.toString) = some b
  | [], b, h => by
    cases h
    rfl
  | x :: xs, b, h => by
    simp only [isiD] at h
    cases e : kitB t x.toString with
    | none => rw [e] at h; cases h
    | some c =>
      rw [e] at h
      simp only [Option.bind_some] at h
      cases c with
      | true =>
        rw [if_pos rfl] at h
        cases h
        exact kitAny_cons (kit_ty e) (fun z => by cases z) fun _ => rfl
      | false =>
        rw [if_neg Bool.false_ne_true] at h
        exact kitAny_cons (kit_ty e) (fun _ => isi_any h) fun z => by cases z
omit S in
theorem cls_pair : ∀ xs : List Str, Paired ClsV (xs.map fun x => V.ty x.toString) (xs.map fun x => Value.type x.toString)
  | [] => .nil
  | x :: xs => .cons (.ty _) (cls_pair xs)
omit S in
theorem ty_pe (O : XOk M N sc k X W) {x : Str} {p : Pos} (hf : isFree M sc x = true) (ht : typeNames.contains x = true) : PE X (.Name x p) (tC (.ty x.toString)) := by
  obtain ⟨h1, h2, h3⟩ := isFree_mg O hf
  exact pe_bltn h1 h2 (type_name ht) rfl (nameOk_nm h3) (nameOk_dbg h3)
omit S in
theorem tys_pa (O : XOk M N sc k X W) : ∀ {es : List Expr} {xs : List Str}, (es.mapM fun e => match e with
    | .Name x _ => if typeNames.contains x then some x else none
    | _ => none) = some xs → xs.all (fun x => isFree M sc x) = true → ∃ t, PA X es t ∧ ∀ σ H Q, Q (xs.map fun x => V.ty x.toString) H → t σ H Q
  | [], xs, h, _ => by
    simp at h
    subst h
    exact ⟨_, pa_nil, fun σ H Q q => q⟩
  | e :: es, xs, h, ha => by
    rw [List.mapM_cons] at h
    obtain ⟨x, hx, h⟩ := bind_some' (show _ = _ from h)
    obtain ⟨ys, hy, h⟩ := bind_some' (show _ = _ from h)
    cases h
    have ha' : isFree M sc x = true ∧ ys.all (fun x => isFree M sc x) = true := by simpa using ha
    cases e with
    | Name z p =>
      have hx' : (if typeNames.contains z then some z else none) = some x := hx
      split at hx'
      · rename_i c
        cases hx'
        obtain ⟨t, ht, q⟩ := tys_pa O hy ha'.2
        exact ⟨_, pa_cons (ty_pe O ha'.1 c) ht (star_cons rfl), fun σ H Q z => q σ H _ z⟩
      · cases hx'
    | _ => cases hx
theorem snd_isi {a c : Expr} {p p2 : Pos} {xs : List Str} (O : XOk M N sc k X W) (R : Rep X.K G H σ ρ) (hg : gloK sc "isinstance" = true) (hs : notStar a = true ∧ notStar c = true) (hf : M.glob "isinstance" = .free) (hc : clsOf c = some xs) (hl : xs.length ≤ 64) (ha : xs.all (fun x => isFree M sc x) = true)
    (h : Post X.mg X.K W σ ρ G H ((E.e sc a ρ).bind fun b ρ1 => Rs.of ((((deref ρ1 b).bind tyD).bind fun t => isiD t xs).map fun r => Bv.va (.bl r) false) ρ1) (OutC X.K σ H Q)) : WE X (.Call (.Name "isinstance" p) [a, c] [] p2) σ H Q := by
  have hm := O.md.free _ hf
  have hb : bootBuiltins "isinstance" = some (.builtin "isinstance") := by decide +kernel
  have hstar : [c].all notStar = true := by simp [hs.2]
  cases c with
  | Name x p3 =>
    simp only [clsOf] at hc
    split at hc
    · rename_i ht
      cases hc
      have hx : isFree M sc x = true := by simpa using ha
      refine WE.mk (pe_callB call_isi (O.glo hg) hm hb (pa_cons pe_we (pa_cons (ty_pe O hx ht) pa_nil (star_cons rfl)) (star_cons hs.1)) (nameOk_nm (glo_name hg)) (nameOk_dbg (glo_name hg)) (star_cons hs.1) (star_none hstar)) ?_
      refine S.e O R (h.bind.imp fun y ρ1 G1 H1 _ g1 e1 R1 h1 vy oy => ?_)
      obtain ⟨z, hz, h3⟩ := Post.of_none h1
      obtain ⟨b, eb, rfl⟩ := map_some hz
      obtain ⟨t, et, eb⟩ := bind_some' eb
      obtain ⟨d, ed, et⟩ := bind_some' et
      have q1 : kitB t x.toString = some b := by
        simp only [isiD] at eb
        cases e : kitB t x.toString with
        | none => rw [e] at eb; cases eb
        | some w =>
          rw [e] at eb
          cases w <;> (simp at eb; rw [eb])
      exact ⟨vy, _, .type t, .type x.toString, b, rfl, .ty _, ty_of R1.ex et (oy.1.deref R1 ed), kit_ty q1, out_val h3 R1 (.bl _)⟩
    · cases hc
  | Tuple es j p3 =>
    obtain ⟨t, ht, q⟩ := tys_pa O (show _ = some xs from hc) ha
    refine WE.mk (pe_callB call_isiT (O.glo hg) hm hb (pa_cons pe_we (pa_cons (pe_tup ht) pa_nil (star_cons rfl)) (star_cons hs.1)) (nameOk_nm (glo_name hg)) (nameOk_dbg (glo_name hg)) (star_cons hs.1) (star_none hstar)) ?_
    refine S.e O R (h.bind.imp fun y ρ1 G1 H1 _ g1 e1 R1 h1 vy oy => ?_)
    obtain ⟨z, hz, h3⟩ := Post.of_none h1
    obtain ⟨b, eb, rfl⟩ := map_some hz
    obtain ⟨t2, et, eb⟩ := bind_some' eb
    obtain ⟨d, ed, et⟩ := bind_some' et
    refine q _ _ _ ⟨by rw [List.length_map]; exact Nat.le_trans hl (by decide), fun tp hp => ?_⟩
    have R2 := rep_new (o := .tup (xs.map fun x => V.ty x.toString)) R1 hp
    have a2 := (oy.1.go (go_new (o := .tup (xs.map fun x => V.ty x.toString)) hp) (Evo.refl _)).deref R2 ed
    exact ⟨vy, tp, _, .type t2, _, b, rfl, upd_same, cls_pair xs, ty_of R2.ex et a2, isi_any eb, out_val (h3.later (go_new hp) (Evo.refl _)) R2 (.bl _)⟩
  | _ => cases hc
/-! ### gcd, append -/
theorem snd_gcd {f : Str} {a : Expr} {r : List Expr} {p p2 : Pos} (O : XOk M N sc k X W) (R : Rep X.K G H σ ρ) (hg : gloK sc f = true) (hs : (a :: r).all notStar = true) (hf : M.glob f = .bfn "math.gcd")
    (h : Post X.mg X.K W σ ρ G H ((E.as sc (a :: r) ρ).bind fun bs ρ1 => (match bs.mapM (deref ρ1) with
        | some [.int a, .int b] => .ok (.va (.int ((Nat.gcd a.natAbs b.natAbs : Nat) : Int)) false) ρ1
        | _ => .stuck)) (OutC X.K σ H Q)) : WE X (.Call (.Name f p) (a :: r) [] p2) σ H Q := by
  have hs' : notStar a = true ∧ r.all notStar = true := by simpa using hs
  refine WE.mk (pe_callBfun cr_gcd (O.glo hg) (O.md.bfn f _ hf) pa_wa (nameOk_dbg (glo_name hg)) (star_cons hs'.1) (star_none hs'.2)) ?_
  refine S.as O R (h.bind.imp fun bs ρ1 G1 H1 _ g1 e1 R1 h1 vs hv => ?_)
  split at h1
  · rename_i i j e
    have q := hv.deref R1 e
    cases q with | cons q1 q => cases q with | cons q2 q => cases q with | nil =>
    rw [q1.int, q2.int]
    exact ⟨i, j, rfl, out_val h1 R1 (.int _)⟩
  · exact h1.elim
omit S in
/-- a list of a slot's own is changed -/
theorem mut_ok {K : PySem.W.Frag} {i : Nat} {m : Md} {d : D} {ds' : List D} {a : Addr} {ys : List V} (R : Rep K G H σ ρ) (h : ρ[i]? = some (.ow m d)) (hm : m ≠ .lck) (ha : σ[i]? = some (some (.ref a))) (hi : IsL K G ys ds') :
    Go σ ρ G H σ (ρ.set i (.ow m (.lst ds'))) G (upd H a (.lst ys)) ∧ Evo ρ (ρ.set i (.ow m (.lst ds'))) ∧ Rep K G (upd H a (.lst ys)) σ (ρ.set i (.ow m (.lst ds'))) := by
  obtain ⟨a', ea, c1, xs, ds, c2, c3, c4⟩ := R.sl i _ h
  rw [ha] at ea
  cases ea
  have evo : Evo ρ (ρ.set i (.ow m (.lst ds'))) := ⟨List.length_set, fun j m' d' e => by
    rcases getSet e with ⟨rfl, e'⟩ | ⟨_, e'⟩
    · cases e'
      exact ⟨d, h⟩
    · exact ⟨d', e'⟩, fun j s e n => by
    rw [getSet_ne fun z => by rw [z, h] at e; cases e; cases n]
    exact e⟩
  refine ⟨⟨Same.refl _, fun x u e n => ?_, fun _ _ _ g _ => g, fun x mo => ?_, fun j s e p => ⟨rfl, ?_⟩, fun _ e => upd_none e⟩, evo, ⟨fun x u e => ?_, R.len.trans List.length_set.symm, fun j s e => ?_, fun j l x o1 o2 => R.dj j l x (o1.evo evo) (o2.evo evo)⟩⟩
  · rw [upd_ne fun z => n ⟨i, m, d, hm, h, by rw [z]; exact ha⟩]
    exact e
  · obtain ⟨j, m', d', n', e1, e2⟩ := mo
    obtain ⟨d'', e3⟩ := evo.2 j m' d' e1
    exact .inl ⟨j, m', d'', n', e3, e2⟩
  · by_cases q : j = i
    · subst q
      rw [h] at e
      cases e
      refine ⟨_, getSet_self h, ?_⟩
      cases m with
      | own => trivial
      | par => exact .inl ⟨_, rfl⟩
      | lck => exact absurd rfl hm
    · exact ⟨s, by rw [getSet_ne q]; exact e, PinTo.refl s⟩
  · rw [upd_ne fun z => by rw [z, c1] at e; cases e]
    exact R.ex x u e
  · rcases getSet e with ⟨rfl, e'⟩ | ⟨ne, e'⟩
    · subst e'
      exact ⟨a, ha, c1, ys, ds', rfl, upd_same, hi⟩
    · refine (R.sl j s e').later (Same.refl _) fun m' x d' es ex ⟨k1, zs, es', k2, k3, k4⟩ => ⟨k1, zs, es', k2, ?_, k4⟩
      rw [upd_ne fun z => ne (R.dj j i x ⟨m', d', by rw [e', es], ex⟩ ⟨m, d, h, by rw [z]; exact ha⟩)]
      exact k3
theorem snd_append {x : Str} {px : Pos} {a : Expr} {m : Str} {ap p : Pos} (O : XOk M N sc k X W) (R : Rep X.K G H σ ρ) (hm : m = "append") (hs : notStar a = true) (hl : (ap.endLine == p.line) = true)
    (h : Post X.mg X.K W σ ρ G H ((E.e sc (.Name x px) ρ).bind fun x ρ1 => (match x with
          | .at i => appS E sc a i ρ1
          | _ => .stuck)) (OutC X.K σ H Q)) : WE X (.Call (.Attribute (.Name x px) m ap) [a] [] p) σ H Q := by
  subst hm
  have few : ((backTo p (starEach [a] X.env)).all (fun x => !x.1) && (backToKw p (keywordEach [] X.env)).all (fun x => x.1.isSome)
      && decide ([a].length + ([] : List Keyword).length + (if ([] : List Keyword).isEmpty then 0 else 1) < 30)) = true := by
    rw [star_cons hs]
    rfl
  refine WE.mk (pe_bm PySem.F.plainAttrs_list PySem.F.slot_list_append PySem.F.type_list_append mt_append pe_we (pa_cons pe_we pa_nil (star_cons hs)) rfl few hl (star_cons hs) rfl) ?_
  refine S.e O R (h.bind.imp fun y ρ1 G1 H1 _ g1 e1 R1 h1 vy oy => ?_)
  cases y with
  | va d f => exact h1.elim
  | «at» i =>
    have hi : σ[i]? = some (some vy) := oy.1
    have h2 : Post X.mg X.K W σ ρ1 G1 H1 (appS E sc a i ρ1) (OutC X.K σ H Q) := h1
    unfold appS at h2
    split at h2
    case h_2 => exact h2.elim
    rename_i e0
    obtain ⟨a0, ea, _, xs0, _, _, d0, _⟩ := R1.sl i _ e0
    rw [hi] at ea
    cases ea
    refine ⟨.inl ⟨rfl, xs0, .inl (.inl d0)⟩, ?_⟩
    refine S.e O R1 (h2.bindW.imp fun v ρ2 G2 H2 _ g2 e2 R2 h2 vv ov => ?_)
    obtain ⟨d, ρ3, G3, g3, e3, R3, i3, h3⟩ := h2 vv ov
    split at h3
    · rename_i md xs e
      split at h3
      · rename_i c
        obtain ⟨c1, c2⟩ := Bool.and_eq_true_iff.mp c
        obtain ⟨a', ea, d1, us, ds, d2, d3, d4⟩ := R3.sl i _ e
        rw [hi] at ea
        cases ea
        cases d2
        have hlen := d4.length
        obtain ⟨go, ev, R4⟩ := mut_ok R3 e (of_decide_eq_true c1) hi (d4.append (IsL.one i3))
        refine ⟨a0, us, vv, rfl, rfl, d3, by rw [hlen]; exact of_decide_eq_true c2, ?_⟩
        exact h3 G3 _ go ev R4 .non ⟨.non, fun _ _ z _ => by cases z⟩
      · exact h3.elim
    · exact h3.elim
/-! ### calls with keywords -/
omit S in
theorem frame_go {K : PySem.W.Frag} {σc σc' : L2.St} {ρc ρc' : Ro} {G' H' : Hp} (hc : ∀ a, ¬ Mo σc ρc a) (g : Go σc ρc G H σc' ρc' G' H') (ex : Same G' H') (R : Rep K G H σ ρ) : Go σ ρ G H σ ρ G' H' ∧ Rep K G' H' σ ρ := by
  refine ⟨⟨g.g, fun a o e _ => g.keep a o e (hc a), fun a o e z _ => g.fr a o e z (hc a), fun a m => .inl m, fun j s e _ => ⟨rfl, s, e, PinTo.refl s⟩, g.there⟩, ⟨ex, R.len, fun i s e => (R.sl i s e).later g.g fun m a d _ _ ⟨c1, xs, ds, c2, c3, c4⟩ => ⟨g.fr a _ c3 c1 (hc a), xs, ds, c2, g.keep a _ c3 (hc a), c4.mono g.g⟩, R.dj⟩⟩
omit S in
theorem rep_fz {K : PySem.W.Frag} {vs : List V} {ds : List D} (ex : Same G H) (il : IsL K G vs ds) : Rep K G H (vs.map some) (ds.map .fz) ∧ ∀ a, ¬ Mo (vs.map some) (ds.map Sl.fz) a := by
  have no : ∀ i m d, (ds.map Sl.fz)[i]? = some (Sl.ow m d) → False := fun i m d e => by
    rw [List.getElem?_map] at e
    cases q : ds[i]? with
    | none => rw [q] at e; cases e
    | some d' => rw [q] at e; cases e
  refine ⟨⟨ex, by simp [il.length], fun i s e => ?_, fun i j a ⟨m, d, e, _⟩ _ => (no i m d e).elim⟩, fun a ⟨i, m, d, _, e, _⟩ => no i m d e⟩
  rw [List.getElem?_map] at e
  cases q : ds[i]? with
  | none => rw [q] at e; cases e
  | some d' =>
    rw [q] at e
    cases e
    obtain ⟨v, e1, e2⟩ := il.get q
    exact ⟨v, by rw [List.getElem?_map, e1]; rfl, e2⟩
omit S in
theorem run_fnNS {CX : CXT} {k n : Nat} {f : Addr} {fd : FuncData} {ps ks : List Str} {sp : Sp} {E' : XK} {g : List Value → List Value → List Value} {gV : List V → List V → List V} {pins : List (Addr × Obj)} {s : Shared} {us ws : List Value} {vs zs : List V} (F : FnOk X.prog X.w X.K X.mg X.base CX k f fd ps sp) (hr : Room k X.A) (hb : KBn X.K fd ps n ks g gV) (hx : PassesAt CX X σ E')
    (I : Inv X pins σ H s) (r : Vals vs us) (rz : Vals zs ws) (l1 : vs.length = n) (l2 : zs.length = ks.length) (h : sp (gV vs zs) H Q E') : wpAny (model X.prog X.w) X.A (call (.ref f) us (ks.zip ws)) (EP X pins σ Q) X.xe s := by
  refine wpAny_call (codeAny_mono (F.run X.A X.stack s H ⟨us, ks.zip ws⟩ (g us ws) (gV vs zs) Q E' hr I.env0 (hb.to s us ws I.kIn (r.length.symm.trans l1) (rz.length.symm.trans l2)) (hb.rel r rz) h) fun r s' hq => ?_)
  cases r with
  | error e => exact hx pins H s e s' I hq
  | ok fl =>
    cases fl with
    | ret u => exact I.after hq
    | next => exact False.elim hq
    | brk => exact False.elim hq
    | cont => exact False.elim hq
def tCallNS (n m : Nat) (sp : Sp) (gV : List V → List V → List V) (E' : L2.St → XK) (t tk : TA) : TE := fun σ H Q => t σ H fun vs H1 => tk σ H1 fun zs H2 => vs.length = n ∧ zs.length = m ∧ sp (gV vs zs) H2 Q (E' σ)
omit S in
theorem pe_callNS {CX : CXT} {k n : Nat} {f : Addr} {fd : FuncData} {ps ks : List Str} {sp : Sp} {E' : L2.St → XK} {x : Str} {p pos : Pos} {e : Expr} {es : List Expr} {kws : List Keyword} {t tk : TA} {g : List Value → List Value → List Value} {gV : List V → List V → List V} (F : FnOk X.prog X.w X.K X.mg X.base CX k f fd ps sp) (hr : Room k X.A) (hg : Gl X x) (hm : X.mg x = some (.ref f)) (hk : PySem.W.keepIn X.K (.ref f) = true) (hb : KBn X.K fd ps n ks g gV) (hx : ∀ σ, PassesAt CX X σ (E' σ))
    (ha : PA X (e :: es) t) (hkw : PK X kws tk) (hall : (backToKw pos (keywordEach kws X.env)).all (·.1.isSome) = true) (hks : (backToKw pos (keywordEach kws X.env)).filterMap (·.1) = ks)
    (hdb : (x == ("__debug__" : Str)) = false) (he : starEach (e :: es) X.env = (false, eval e X.env) :: starEach es X.env)
    (hpl : ((backTo pos (starEach (e :: es) X.env)).any (·.1) || (backToKw pos (keywordEach kws X.env)).any (·.1.isNone)) = false) :
    PE X (.Call (.Name x p) (e :: es) kws pos) (tCallNS n ks.length sp gV E' t tk) := by
  refine ⟨fun pins s σ H Q I h => ?_⟩
  refine wpAny_Call_Name_kw (ld_glob I hg hm ?_ hdb)
  refine PySem.W.callWith_KW (h₀ := X.base) I.ok.mod.kin hk hall (thn (ha.run pos pins s σ H _ I h) fun us s1 ⟨vs, H1, I1, r, q⟩ => ?_) hpl he
  refine thn (hkw.run pos pins s1 σ H1 _ I1 q) fun ws s2 ⟨zs, H2, I2, rz, l1, l2, q2⟩ => ⟨I2.kIn, ?_⟩
  rw [hks]
  exact run_fnNS F hr hb (hx σ) I2 r rz l1 l2 q2
omit S in
theorem kw_names {env : Env} {pos : Pos} : ∀ {kws : List Keyword} {ks : List Str}, kws.mapM (·.arg) = some ks → (backToKw pos (keywordEach kws env)).all (·.1.isSome) = true ∧ (backToKw pos (keywordEach kws env)).filterMap (·.1) = ks ∧ (backToKw pos (keywordEach kws env)).any (·.1.isNone) = false ∧ ks.length = kws.length
  | [], ks, h => by
    rw [List.mapM_nil] at h
    cases h
    exact ⟨rfl, rfl, rfl, rfl⟩
  | ⟨nm, e, kp⟩ :: r, ks, h => by
    rw [List.mapM_cons] at h
    cases nm with
    | none => cases h
    | some x =>
      cases q : r.mapM (·.arg) with
      | none => rw [q] at h; cases h
      | some zs =>
        rw [q] at h
        cases h
        obtain ⟨h1, h2, h3, h4⟩ := kw_names (env := env) (pos := pos) q
        have e1 : backToKw pos (keywordEach (⟨some x, e, kp⟩ :: r) env) = (some x, do let v ← eval e env; standAt pos; pure v) :: backToKw pos (keywordEach r env) := rfl
        rw [e1]
        exact ⟨by rw [List.all_cons, h1]; rfl, by rw [List.filterMap_cons]; simp only [h2], by rw [List.any_cons, h3]; rfl, by rw [List.length_cons, List.length_cons, h4]⟩
/-- the keywords' reading -/
def tKw (X : Cx) : List Keyword → TA
  | [] => tNil
  | kw :: r => tCons (WE X kw.value) (tKw X r)
omit S in
theorem pk_kw : ∀ kws : List Keyword, PK X kws (tKw X kws)
  | [] => pk_nil
  | ⟨nm, e, kp⟩ :: r => pk_cons pe_we (pk_kw r)
theorem snd_kwE (O : XOk M N sc k X W) : ∀ {kws : List Keyword} {ρ : Ro} {G H : Hp} {Q : List V → Hp → Prop}, Rep X.K G H σ ρ → Post X.mg X.K W σ ρ G H (kwE E sc kws ρ) (fun ds _ G' H' => ∀ vs, IsL X.K G' vs ds → Q vs H') → tKw X kws σ H Q
  | [], ρ, G, H, Q, R, h => h.here R [] .nil
  | kw :: r, ρ, G, H, Q, R, h => by
    simp only [kwE] at h
    show WE X kw.value σ H fun v H1 => tKw X r σ H1 fun vs H2 => Q (v :: vs) H2
    refine S.e O R (h.bindW.imp fun x ρ1 G1 H1 _ g1 e1 R1 h1 vx ox => ?_)
    obtain ⟨d, ρ2, G2, g2, e2, R2, i2, h2⟩ := h1 vx ox
    refine snd_kwE O R2 (h2.bind.imp fun ds ρ3 G3 H3 _ g3 e3 R3 h3 vs i3 => ?_)
    exact h3.here R3 _ (.cons (i2.mono g3.g) i3)
theorem snd_kw {f : Str} {a : Expr} {r : List Expr} {kws : List Keyword} {p p2 : Pos} (O : XOk M N sc k X W) (R : Rep X.K G H σ ρ) (h : Post X.mg X.K W σ ρ G H (kwS M E sc f (a :: r) kws ρ) (OutC X.K σ H Q)) : WE X (.Call (.Name f p) (a :: r) kws p2) σ H Q := by
  unfold kwS at h
  split at h
  case isFalse => exact h.elim
  rename_i c
  obtain ⟨hg, hs⟩ := Bool.and_eq_true_iff.mp c
  split at h
  case h_2 => exact h.elim
  rename_i hf
  split at h
  · exact h.elim
  rename_i ks eks
  split at h
  · exact h.elim
  rename_i pl dfs epl
  obtain ⟨fa, fd, ps, hm, hk, F, hlen, _, hkw⟩ := O.md.fn f hf
  obtain ⟨g, gV, hb, hI⟩ := hkw _ ks pl dfs epl
  have hs' : notStar a = true ∧ r.all notStar = true := by simpa using hs
  obtain ⟨n1, n2, n3, n4⟩ := kw_names (env := X.env) (pos := p2) eks
  refine WE.mk (pe_callNS F O.room (O.glo hg) hm hk hb (fun σ => passAt O.tk σ) pa_wa (pk_kw kws) n1 n2 (nameOk_dbg (glo_name hg)) (star_cons hs'.1) (by rw [n3, Bool.or_false]; exact star_none (by simpa using hs))) ?_
  refine S.es O R (h.bind.imp fun ds ρ1 G1 H1 _ g1 e1 R1 h1 vs il => ?_)
  refine snd_kwE S O R1 (h1.bind.imp fun es ρ2 G2 H2 _ g2 e2 R2 h2 zs iz => ?_)
  have il2 := il.mono g2.g
  split at h2
  case isFalse => exact h2.elim
  rename_i cl
  simp only [Bool.and_eq_true, decide_eq_true_eq] at cl
  have l1 : vs.length = (a :: r).length := il.length.trans cl.1
  have l2 : zs.length = ks.length := iz.length.trans cl.2
  have iA := hI G2 vs zs ds es il2 iz l1 l2
  obtain ⟨RA, nm⟩ := rep_fz R2.ex iA
  have hc : M.call f ((planL .non ds dfs es pl).map .fz) ≠ .stuck → (gV vs zs).length = ps.length := fun ne => by
    have := hlen _ ne
    rw [List.length_map] at this
    rw [iA.length]
    exact this
  refine ⟨l1, l2, G2, (planL .non ds dfs es pl).map .fz, hc ?_, RA, ?_⟩
  · intro z
    rw [z] at h2
    exact h2.elim
  · cases ec : M.call f ((planL .non ds dfs es pl).map .fz) with
    | stuck => rw [ec] at h2; exact h2.elim
    | ret d b as =>
      rw [ec] at h2
      intro v G' H' go R' ok
      obtain ⟨go2, R3⟩ := frame_go nm go R'.ex R2
      refine h2 G' H' go2 (Evo.refl _) R3 v ?_
      cases b with
      | false => exact ⟨ok, fun _ _ z _ => by cases z⟩
      | true =>
        obtain ⟨x, rfl, hx, c⟩ := ok
        exact ⟨⟨x, rfl, c, fun i o => new_un R2 hx i o⟩, fun _ y _ z => by cases z; exact g1.there x (g2.there x hx)⟩
    | exc c' fs as =>
      rw [ec] at h2
      intro cls dd G' H' go R' xi
      obtain ⟨go2, R3⟩ := frame_go nm go R'.ex R2
      exact h2 cls dd G' H' go2 (Evo.refl _) R3 xi
end
end VE
end

section
set_option Elab.async false
set_option linter.all false
set_option maxRecDepth 100000
set_option maxHeartbeats 1000000
/-! VE7: stores, targets, locks, what is walked. -/
namespace VE
open PySem PySem.Spec L2

/-! ### a store to a slot -/
section
variable {K : PySem.W.Frag} {G H : Hp} {σ : L2.St} {ρ ρ' : Ro} {N : List Str} {sc : Scope} {x : Str} {s : Sl} {v : V}
theorem getSetV {σ : L2.St} {i j : Nat} {s t : Option V} (h : (σ.set i s)[j]? = some t) : (j = i ∧ t = s) ∨ (j ≠ i ∧ σ[j]? = some t) := by
  by_cases e : j = i
  · subst e
    rw [List.getElem?_set_self'] at h
    cases q : σ[j]? with
    | none => rw [q] at h; cases h
    | some u => rw [q] at h; exact .inl ⟨rfl, (Option.some.inj h).symm⟩
  · rw [List.getElem?_set_ne (Ne.symm e)] at h
    exact .inr ⟨e, h⟩
theorem store_inv (h : store N sc x s ρ = some ρ') : ∃ i, ixN? N x = some i ∧ locK sc x = true ∧ mayStore ρ[i]? = true ∧ ρ' = ρ.set i s := by
  unfold store at h
  split at h
  · cases h
  · rename_i i hi
    split at h
    · rename_i c
      cases h
      obtain ⟨c1, c2⟩ := Bool.and_eq_true_iff.mp c
      exact ⟨i, hi, c1, c2, rfl⟩
    · cases h
/-- what is put into a slot: a fixed value, or a list of its own that no slot has -/
def PutOk (K : PySem.W.Frag) (G H : Hp) (σ : L2.St) (ρ : Ro) (v : V) : Sl → Prop
  | .fz d => Is K G v d
  | .ow .own d => ∃ a, v = .ref a ∧ Cell K G H a d ∧ ∀ i, ¬ OwAt σ ρ i a
  | _ => False
theorem put_ok {i : Nat} {H0 : Hp} (R : Rep K G H σ ρ) (hm : mayStore ρ[i]? = true) (p : PutOk K G H σ ρ v s) :
    Rep K G H (σ.set i (some v)) (ρ.set i s) ∧ ((∀ a, v = .ref a → (∃ d, s = .ow .own d) → H0 a = none) → ∀ {σ0 : L2.St} {ρ0 : Ro} {G0 : Hp}, Go σ0 ρ0 G0 H0 σ ρ G H → Go σ0 ρ0 G0 H0 (σ.set i (some v)) (ρ.set i s) G H) := by
  have hi : ∃ s0, ρ[i]? = some s0 ∧ pinned s0 = false := by
    cases q : ρ[i]? with
    | none => rw [q] at hm; cases hm
    | some s0 =>
      refine ⟨s0, rfl, ?_⟩
      rw [q] at hm
      cases s0 with
      | ow m d => cases m <;> first | rfl | cases hm
      | pz d => cases hm
      | _ => rfl
  obtain ⟨s0, hs0, np⟩ := hi
  have hσ : ∃ u, σ[i]? = some u := by
    have : i < ρ.length := by
      rcases Nat.lt_or_ge i ρ.length with h | h
      · exact h
      · rw [List.getElem?_eq_none_iff.mpr h] at hs0
        cases hs0
    have h2 : i < σ.length := by rw [R.len]; exact this
    exact ⟨_, List.getElem?_eq_getElem h2⟩
  obtain ⟨u, hu⟩ := hσ
  have self : (σ.set i (some v))[i]? = some (some v) := by
    rw [List.getElem?_set_self', hu]
    rfl
  have ne : ∀ j, j ≠ i → (σ.set i (some v))[j]? = σ[j]? := fun j h => List.getElem?_set_ne (Ne.symm h)
  have owAt : ∀ j a, OwAt (σ.set i (some v)) (ρ.set i s) j a → (j = i ∧ v = .ref a ∧ ∃ d, s = .ow .own d) ∨ (j ≠ i ∧ OwAt σ ρ j a) := fun j a ⟨m, d, e1, e2⟩ => by
    rcases getSet e1 with ⟨rfl, e⟩ | ⟨n, e⟩
    · rw [self] at e2
      subst e
      cases m with
      | own => exact .inl ⟨rfl, Option.some.inj (Option.some.inj e2), d, rfl⟩
      | par => exact p.elim
      | lck => exact p.elim
    · rw [ne j n] at e2
      exact .inr ⟨n, m, d, e, e2⟩
  refine ⟨⟨R.ex, by simp [R.len], fun j t e => ?_, fun j l a o1 o2 => ?_⟩, fun hn {σ0 ρ0 G0} g => ⟨g.g, g.keep, g.fr, fun a mo => ?_, fun j t e pn => ?_, g.there⟩⟩
  · rcases getSet e with ⟨rfl, e'⟩ | ⟨n, e'⟩
    · rw [self]
      subst e'
      cases t with
      | fz d => exact ⟨v, rfl, p⟩
      | ow m d =>
        cases m with
        | own =>
          obtain ⟨a, rfl, c, _⟩ := p
          exact ⟨a, rfl, c⟩
        | par => exact p.elim
        | lck => exact p.elim
      | un => exact p.elim
      | pz d => exact p.elim
    · rw [ne j n]
      exact R.sl j t e'
  · rcases owAt j a o1 with ⟨rfl, e1, d1, es1⟩ | ⟨n1, q1⟩
    · rcases owAt l a o2 with ⟨rfl, _, _⟩ | ⟨n2, q2⟩
      · rfl
      · subst es1
        obtain ⟨a', e2, _, nn⟩ := p
        rw [e1] at e2
        cases e2
        exact (nn l q2).elim
    · rcases owAt l a o2 with ⟨rfl, e1, d1, es1⟩ | ⟨n2, q2⟩
      · subst es1
        obtain ⟨a', e2, _, nn⟩ := p
        rw [e1] at e2
        cases e2
        exact (nn j q1).elim
      · exact R.dj j l a q1 q2
  · obtain ⟨j, m, d, nl, e1, e2⟩ := mo
    rcases getSet e1 with ⟨rfl, e⟩ | ⟨n, e⟩
    · rw [self] at e2
      have ev : v = .ref a := Option.some.inj (Option.some.inj e2)
      subst e
      cases m with
      | own => exact .inr (hn a ev ⟨d, rfl⟩)
      | par => exact p.elim
      | lck => exact p.elim
    · rw [ne j n] at e2
      exact g.own a ⟨j, m, d, nl, e, e2⟩
  · obtain ⟨e1, t', e2, e3⟩ := g.pin j t e pn
    have n : j ≠ i := fun z => by
      rw [z, hs0] at e2
      cases e2
      rw [e3.pin pn] at np
      cases np
    exact ⟨(ne j n).trans e1, t', by rw [getSet_ne n]; exact e2, e3⟩
theorem put_fz {i : Nat} {d : D} (R : Rep K G H σ ρ) (hm : mayStore ρ[i]? = true) (p : Is K G v d) : Go σ ρ G H (σ.set i (some v)) (ρ.set i (.fz d)) G H ∧ Rep K G H (σ.set i (some v)) (ρ.set i (.fz d)) := by
  obtain ⟨h1, h2⟩ := put_ok (H0 := H) (s := .fz d) R hm p
  exact ⟨h2 (fun _ _ ⟨_, z⟩ => by cases z) Go.refl, h1⟩
end

/-! ### targets -/
section
variable {M : Mdl} {N : List Str} {sc : Scope} {k : Nat} {X : Cx} {W : WX}
theorem pg_nm (O : XOk M N sc k X W) {x : Str} {p : Pos} {i : Nat} (hi : ixN? N x = some i) (hl : locK sc x = true) : PG X (.Name x p) (gName i) := by
  obtain ⟨h1, h2⟩ := O.loc hl
  exact pg_name (by rw [O.nm]; exact O.nd) (by rw [O.nm]; exact ixN_get hi) h1 h2
theorem assign_names {env : Env} : ∀ {es : List Expr}, es.all (nmOk N sc) = true → (assignEach es env).length = es.length ∧ (assignEach es env).findIdx? (·.1) = none
  | [], _ => ⟨rfl, rfl⟩
  | .Name x p :: es, h => by
    have h' : nmOk N sc (.Name x p) = true ∧ es.all (nmOk N sc) = true := by simpa using h
    obtain ⟨h1, h2⟩ := assign_names (env := env) h'.2
    have e : assignEach (.Name x p :: es) env = (false, assign (.Name x p) env) :: assignEach es env := rfl
    rw [e]
    refine ⟨by simp [h1], ?_⟩
    rw [List.findIdx?_cons]
    simp [h2]
def nmIx (N : List Str) : Expr → List Nat
  | .Name x _ => (ixN? N x).toList
  | _ => []
/-- the places of a target's names -/
def tgIx (N : List Str) : Expr → List Nat
  | .Name x _ => (ixN? N x).toList
  | .Tuple es _ _ => es.flatMap (nmIx N)
  | _ => []
/-- nothing but these places has changed -/
def OutSame (idx : List Nat) (σ σ' : L2.St) (ρ ρ' : Ro) : Prop := σ'.length = σ.length ∧ ρ'.length = ρ.length ∧ ∀ j, j ∉ idx → σ'[j]? = σ[j]? ∧ ρ'[j]? = ρ[j]?
/-- a target that is fit: its reading, and what it does -/
theorem tg_ok (O : XOk M N sc k X W) {tg : Expr} (ht : tgOk N sc tg = true) :
    ∃ g : TG, PG X tg g ∧ ∀ {v : V} {d : D} {σ : L2.St} {ρ ρ' : Ro} {G H : Hp} {Q : L2.St → Hp → Prop}, asgT N sc tg d ρ = some ρ' → Is X.K G v d → Rep X.K G H σ ρ →
      (∀ σ', Go σ ρ G H σ' ρ' G H → Rep X.K G H σ' ρ' → OutSame (tgIx N tg) σ σ' ρ ρ' → Q σ' H) → g v σ H Q := by
  cases tg with
  | Name x p =>
    have h' : (ixN? N x).isSome = true ∧ locK sc x = true := Bool.and_eq_true_iff.mp ht
    obtain ⟨i, hi⟩ := Option.isSome_iff_exists.mp h'.1
    refine ⟨_, pg_nm O hi h'.2, fun {v d σ ρ ρ' G H Q} ha is R q => ?_⟩
    obtain ⟨i', e1, _, e3, rfl⟩ := store_inv (show store N sc x (.fz d) ρ = some ρ' from ha)
    rw [hi] at e1
    cases e1
    obtain ⟨g, R'⟩ := put_fz R e3 is
    refine q _ g R' ⟨by simp, by simp, fun j hj => ?_⟩
    have n : j ≠ i := fun z => hj (by simp [tgIx, hi, z])
    exact ⟨List.getElem?_set_ne (Ne.symm n), getSet_ne n⟩
  | Tuple es j p =>
    have key : ∀ {es : List Expr}, es.all (nmOk N sc) = true →
        ∃ t : TGs, PGs X es t ∧ ∀ {vs : List V} {ds : List D} {σ : L2.St} {ρ ρ' : Ro} {G H : Hp} {Q : L2.St → Hp → Prop}, asgNames N sc es ds ρ = some ρ' → IsL X.K G vs ds → Rep X.K G H σ ρ →
          (∀ σ', Go σ ρ G H σ' ρ' G H → Rep X.K G H σ' ρ' → OutSame (es.flatMap (nmIx N)) σ σ' ρ ρ' → Q σ' H) → vs.length = es.length ∧ t vs σ H Q := by
      intro es
      induction es with
      | nil =>
        intro _
        refine ⟨_, pgs_nil, fun {vs ds σ ρ ρ' G H Q} ha il R q => ?_⟩
        cases ds with
        | nil =>
          cases ha
          cases il
          exact ⟨rfl, rfl, q σ Go.refl R ⟨rfl, rfl, fun _ _ => ⟨rfl, rfl⟩⟩⟩
        | cons d ds => cases ha
      | cons e es ih =>
        intro h
        cases e with
        | Name x p =>
          have h'' : nmOk N sc (.Name x p) = true ∧ es.all (nmOk N sc) = true := by simpa using h
          have h' : ((ixN? N x).isSome = true ∧ locK sc x = true) ∧ es.all (nmOk N sc) = true := ⟨Bool.and_eq_true_iff.mp h''.1, h''.2⟩
          obtain ⟨i, hi⟩ := Option.isSome_iff_exists.mp h'.1.1
          obtain ⟨t, ht, hq⟩ := ih h'.2
          refine ⟨_, pgs_cons (pg_nm O hi h'.1.2) ht, fun {vs ds σ ρ ρ' G H Q} ha il R q => ?_⟩
          cases ds with
          | nil => cases ha
          | cons d ds =>
            cases il with
            | cons i1 il =>
              obtain ⟨ρ1, e1, e2⟩ := bind_some' (show ((store N sc x (.fz d) ρ).bind fun ρ1 => asgNames N sc es ds ρ1) = some ρ' from ha)
              obtain ⟨i', e3, _, e4, rfl⟩ := store_inv e1
              rw [hi] at e3
              cases e3
              obtain ⟨g, R'⟩ := put_fz R e4 i1
              obtain ⟨l, z⟩ := hq e2 il R' fun σ' g' R'' o => q σ' (g.trans g') R'' ⟨by rw [o.1]; simp, by rw [o.2.1]; simp, fun j hj => by
                have n : j ≠ i := fun z => hj (by simp [nmIx, hi, z])
                have hj2 : j ∉ es.flatMap (nmIx N) := fun z => hj (by rw [List.flatMap_cons]; exact List.mem_append_right _ z)
                obtain ⟨o1, o2⟩ := o.2.2 j hj2
                exact ⟨o1.trans (List.getElem?_set_ne (Ne.symm n)), o2.trans (getSet_ne n)⟩⟩
              exact ⟨by simp [l], _, _, rfl, z⟩
        | _ => simp [nmOk] at h
    have ht' : es.all (nmOk N sc) = true := ht
    obtain ⟨t, h1, h2⟩ := key ht'
    obtain ⟨a1, a2⟩ := assign_names (env := X.env) ht'
    refine ⟨_, pg_tup (n := es.length) O.calm h1 a1 a2, fun {v d σ ρ ρ' G H Q} ha is R q => ?_⟩
    cases d with
    | tup ds =>
      cases is with
      | tup hh il =>
        obtain ⟨l, z⟩ := h2 (show asgNames N sc es ds ρ = some ρ' from ha) il R q
        exact ⟨_, _, rfl, sqT_mono R.ex hh, l, z⟩
    | _ => cases ha
  | _ => cases ht
end
end VE
end

section
set_option Elab.async false
set_option linter.all false
set_option maxRecDepth 100000
set_option maxHeartbeats 1000000
/-! VE8: locks, wiped slots, what is walked. -/
namespace VE
open PySem PySem.Spec L2

/-! ### a list is locked while it is walked -/
section
variable {K : PySem.W.Frag} {G H G' H' : Hp} {σ σ' : L2.St} {ρ ρ' : Ro}
theorem lock1_rep {i : Nat} {m : Md} {d : D} (R : Rep K G H σ ρ) (h : ρ[i]? = some (.ow m d)) : Rep K G H σ (ρ.set i (.ow .lck d)) := by
  have owAt : ∀ j a, OwAt σ (ρ.set i (.ow .lck d)) j a → OwAt σ ρ j a := fun j a ⟨m', d', e1, e2⟩ => by
    rcases getSet e1 with ⟨rfl, e⟩ | ⟨n, e⟩
    · exact ⟨m, d, h, e2⟩
    · exact ⟨m', d', e, e2⟩
  refine ⟨R.ex, R.len.trans List.length_set.symm, fun j s e => ?_, fun j l a o1 o2 => R.dj j l a (owAt j a o1) (owAt l a o2)⟩
  rcases getSet e with ⟨rfl, e'⟩ | ⟨n, e'⟩
  · subst e'
    have z := R.sl j _ h
    exact z
  · exact R.sl j s e'
theorem unlock1_ok {i : Nat} {m : Md} {d : D} (h : ρ[i]? = some (.ow m d)) (g : Go σ (ρ.set i (.ow .lck d)) G H σ' ρ' G' H') (R' : Rep K G' H' σ' ρ') :
    Go σ ρ G H σ' (unlock1 i m ρ') G' H' ∧ Rep K G' H' σ' (unlock1 i m ρ') := by
  obtain ⟨e1, s', e2, e3⟩ := g.pin i _ (getSet_self h) rfl
  have e4 : s' = .ow .lck d := e3
  subst e4
  have eu : unlock1 i m ρ' = ρ'.set i (.ow m d) := by
    unfold unlock1
    rw [e2]
  rw [eu]
  have owAt : ∀ j a, OwAt σ' (ρ'.set i (.ow m d)) j a → OwAt σ' ρ' j a := fun j a ⟨m', d', q1, q2⟩ => by
    rcases getSet q1 with ⟨rfl, e⟩ | ⟨n, e⟩
    · exact ⟨.lck, d, e2, q2⟩
    · exact ⟨m', d', e, q2⟩
  have moSub : ∀ a, Mo σ (ρ.set i (.ow .lck d)) a → Mo σ ρ a := fun a mo => by
    obtain ⟨j, m', d', n, q1, q2⟩ := mo
    rcases getSet q1 with ⟨_, e⟩ | ⟨_, e⟩
    · injection e with e1 _
      exact absurd e1 n
    · exact ⟨j, m', d', n, e, q2⟩
  refine ⟨⟨g.g, fun a o q n => g.keep a o q fun mo => n (moSub a mo), fun a o q z n => g.fr a o q z fun mo => n (moSub a mo), fun a mo => ?_, fun j s e p => ?_, g.there⟩,
    ⟨R'.ex, R'.len.trans List.length_set.symm, fun j s e => ?_, fun j l a o1 o2 => R'.dj j l a (owAt j a o1) (owAt l a o2)⟩⟩
  · obtain ⟨j, m', d', n, q1, q2⟩ := mo
    rcases getSet q1 with ⟨rfl, e⟩ | ⟨_, e⟩
    · cases e
      rw [e1] at q2
      exact .inl ⟨j, m, d, n, h, q2⟩
    · exact (g.own a ⟨j, m', d', n, e, q2⟩).imp (moSub a) id
  · by_cases q : j = i
    · subst q
      rw [h] at e
      cases e
      refine ⟨e1, _, getSet_self e2, ?_⟩
      cases m with
      | own => cases p
      | par => exact .inl ⟨d, rfl⟩
      | lck => rfl
    · obtain ⟨z1, t, z2, z3⟩ := g.pin j s (by rw [getSet_ne q]; exact e) p
      exact ⟨z1, t, by rw [getSet_ne q]; exact z2, z3⟩
  · rcases getSet e with ⟨rfl, e'⟩ | ⟨n, e'⟩
    · subst e'
      have z := R'.sl j _ e2
      exact z
    · exact R'.sl j s e'
/-- the slots that are to be locked -/
def LkOk (ρ : Ro) : List (Nat × Md) → Prop := fun lk => (lk.map (·.1)).Nodup ∧ ∀ p ∈ lk, ∃ d, ρ[p.1]? = some (.ow p.2 d)
theorem LkOk.tail {p : Nat × Md} {lk : List (Nat × Md)} {d : D} (h : LkOk ρ (p :: lk)) : LkOk (ρ.set p.1 (.ow .lck d)) lk := by
  obtain ⟨h1, h2⟩ := h
  have h1' := List.nodup_cons.mp (show (p.1 :: lk.map (·.1)).Nodup from h1)
  refine ⟨h1'.2, fun q hq => ?_⟩
  obtain ⟨d', e⟩ := h2 q (List.mem_cons_of_mem _ hq)
  have n : q.1 ≠ p.1 := fun z => h1'.1 (by rw [← z]; exact List.mem_map_of_mem hq)
  exact ⟨d', by rw [getSet_ne n]; exact e⟩
theorem lock_rep : ∀ {lk : List (Nat × Md)} {ρ : Ro}, LkOk ρ lk → Rep K G H σ ρ → Rep K G H σ (lockAll lk ρ)
  | [], ρ, _, R => R
  | (i, m) :: lk, ρ, h, R => by
    obtain ⟨d, e⟩ := h.2 (i, m) List.mem_cons_self
    have e' : lock1 i ρ = ρ.set i (.ow .lck d) := by
      unfold lock1
      rw [show ρ[i]? = some (.ow m d) from e]
    show Rep K G H σ (lockAll lk (lock1 i ρ))
    rw [e']
    exact lock_rep h.tail (lock1_rep R e)
theorem unlock_ok : ∀ {lk : List (Nat × Md)} {ρ : Ro}, LkOk ρ lk → Go σ (lockAll lk ρ) G H σ' ρ' G' H' → Rep K G' H' σ' ρ' → Go σ ρ G H σ' (unlockAll lk ρ') G' H' ∧ Rep K G' H' σ' (unlockAll lk ρ')
  | [], ρ, _, g, R => ⟨g, R⟩
  | (i, m) :: lk, ρ, h, g, R => by
    obtain ⟨d, e⟩ := h.2 (i, m) List.mem_cons_self
    have e' : lock1 i ρ = ρ.set i (.ow .lck d) := by
      unfold lock1
      rw [show ρ[i]? = some (.ow m d) from e]
    have g' : Go σ (lockAll lk (lock1 i ρ)) G H σ' ρ' G' H' := g
    rw [e'] at g'
    obtain ⟨g2, R2⟩ := unlock_ok h.tail g' R
    exact unlock1_ok e g2 R2
theorem unlock_evo1 {i : Nat} {m : Md} {d : D} (h : ρ[i]? = some (.ow m d)) (e : Evo (ρ.set i (.ow .lck d)) ρ') (hp : ρ'[i]? = some (.ow .lck d)) : Evo ρ (unlock1 i m ρ') := by
  have eu : unlock1 i m ρ' = ρ'.set i (.ow m d) := by
    unfold unlock1
    rw [hp]
  rw [eu]
  refine ⟨by rw [List.length_set, e.len, List.length_set], fun j m' d' q => ?_, fun j s q n => ?_⟩
  · rcases getSet q with ⟨rfl, z⟩ | ⟨ne, z⟩
    · cases z
      exact ⟨d, h⟩
    · obtain ⟨d'', z2⟩ := e.ow j m' d' z
      rw [getSet_ne ne] at z2
      exact ⟨d'', z2⟩
  · have ne : j ≠ i := fun z => by
      rw [z, h] at q
      cases q
      cases n
    rw [getSet_ne ne]
    exact e.stay j s (by rw [getSet_ne ne]; exact q) n
theorem unlock_evo : ∀ {lk : List (Nat × Md)} {ρ : Ro}, LkOk ρ lk → Go σ (lockAll lk ρ) G H σ ρ' G' H' → Rep K G' H' σ ρ' → Evo (lockAll lk ρ) ρ' → Evo ρ (unlockAll lk ρ')
  | [], ρ, _, g, _, e => e
  | (i, m) :: lk, ρ, h, g, R, ev => by
    obtain ⟨d, e⟩ := h.2 (i, m) List.mem_cons_self
    have e' : lock1 i ρ = ρ.set i (.ow .lck d) := by
      unfold lock1
      rw [show ρ[i]? = some (.ow m d) from e]
    have g' : Go σ (lockAll lk (lock1 i ρ)) G H σ ρ' G' H' := g
    have ev' : Evo (lockAll lk (lock1 i ρ)) ρ' := ev
    rw [e'] at g' ev'
    obtain ⟨g2, R2⟩ := unlock_ok h.tail g' R
    obtain ⟨_, s', z2, z3⟩ := g2.pin i _ (getSet_self e) rfl
    have z4 : s' = .ow .lck d := z3
    subst z4
    exact unlock_evo1 e (unlock_evo h.tail g' R ev') z2
end

/-! ### what is walked -/
/-- J walks over these; from the state (σ, ρ, G, H) on -/
def WlkOk (K : PySem.W.Frag) (σ : L2.St) (ρ : Ro) (G H : Hp) (J : It) (ds : List D) : Prop := ∃ (Gp : Hp → Prop) (Y : Nat → Hp → V → Hp → Prop), Walk J ds.length Gp Y ∧
  (∀ σ' ρ' G' H', Go σ ρ G H σ' ρ' G' H' → Rep K G' H' σ' ρ' → Gp H') ∧
  ∀ i Hc x Hc', Y i Hc x Hc' → ∀ σ' ρ' G', Go σ ρ G H σ' ρ' G' Hc → Rep K G' Hc σ' ρ' → ∃ G'' d, ds[i]? = some d ∧ Is K G'' x d ∧ Go σ' ρ' G' Hc σ' ρ' G'' Hc' ∧ Rep K G'' Hc' σ' ρ'
section
variable {K : PySem.W.Frag} {G H : Hp} {σ : L2.St} {ρ : Ro} {a b : Addr} {us ws : List V} {ds es : List D}
theorem wlk_list (i : IsL K G us ds) (hk : ∀ σ' ρ' G' H', Go σ ρ G H σ' ρ' G' H' → Rep K G' H' σ' ρ' → SqL K H' a us) : WlkOk K σ ρ G H (Itl K a) ds := by
  refine ⟨fun H' => SqL K H' a us, YAt us, ?_, hk, fun j Hc x Hc' y σ' ρ' G' g R => ?_⟩
  · rw [← i.length]
    exact walk_list
  · obtain ⟨rfl, e⟩ := y
    obtain ⟨d, e1, e2⟩ := i.getV e
    exact ⟨G', d, e1, e2.mono g.g, Go.refl, R⟩
theorem wlk_tup (i : IsL K G us ds) (h : SqT K G a us) : WlkOk K σ ρ G H (Itt K a) ds := by
  refine ⟨fun H' => SqT K H' a us, YAt us, ?_, fun σ' ρ' G' H' g R => sqT_mono (g.g.trans R.ex) h, fun j Hc x Hc' y σ' ρ' G' g R => ?_⟩
  · rw [← i.length]
    exact walk_tup
  · obtain ⟨rfl, e⟩ := y
    obtain ⟨d, e1, e2⟩ := i.getV e
    exact ⟨G', d, e1, e2.mono g.g, Go.refl, R⟩
theorem rng_get {lo : Int} {n i : Nat} (h : i < n) : (rngD lo n)[i]? = some (.int (lo + (i : Int))) := by
  unfold rngD
  rw [List.getElem?_map, List.getElem?_range h]
  rfl
theorem wlk_range {lo : Int} {n : Nat} : WlkOk K σ ρ G H (Itr lo n) (rngD lo n) := by
  have hl : (rngD lo n).length = n := by simp [rngD]
  refine ⟨fun _ => True, fun i H x H' => i < n ∧ YFn (fun i => .int (lo + i)) i H x H', ?_, fun _ _ _ _ _ _ => trivial, ?_⟩
  · rw [hl]
    exact walk_range.mono (fun _ h => h) fun i H x H' hi _ y => ⟨hi, y⟩
  · rintro i Hc x Hc' ⟨hi, rfl, rfl⟩ σ' ρ' G' g R
    exact ⟨G', _, rng_get hi, .int _, Go.refl, R⟩
theorem pair_ok {x y : V} {T : Addr} {dx dy : D} {Hc G' : Hp} {σ' : L2.St} {ρ' : Ro} (R : Rep K G' Hc σ' ρ') (hT : Hc T = none) (hx : Is K G' x dx) (hy : Is K G' y dy) :
    ∃ G'', Is K G'' (.ref T) (.tup [dx, dy]) ∧ Go σ' ρ' G' Hc σ' ρ' G'' (upd Hc T (.tup [x, y])) ∧ Rep K G'' (upd Hc T (.tup [x, y])) σ' ρ' := by
  have sg := same_upd (o := .tup [x, y]) (R.gnone hT)
  exact ⟨upd G' T (.tup [x, y]), .tup (.inl (.inl upd_same)) (.cons (hx.mono sg) (.cons (hy.mono sg) .nil)), go_fix R hT, rep_fix R hT⟩
theorem wlk_enum (i : IsL K G us ds) (hk : ∀ σ' ρ' G' H', Go σ ρ G H σ' ρ' G' H' → Rep K G' H' σ' ρ' → SqL K H' a us) : WlkOk K σ ρ G H (Ite K a) (enumD ds) := by
  have hl : (enumD ds).length = ds.length := by simp [enumD]
  refine ⟨fun H' => SqL K H' a us, YPair (fun i => some (.int (i : Nat))) (fun i => us[i]?), ?_, hk, ?_⟩
  · rw [hl, ← i.length]
    exact walk_enum
  · rintro j Hc x Hc' ⟨T, y, z, rfl, hT, rfl, e1, e2⟩ σ' ρ' G' g R
    obtain ⟨d, e3, e4⟩ := i.getV e2
    cases e1
    obtain ⟨G'', q1, q2, q3⟩ := pair_ok R hT (.int (j : Int)) (e4.mono g.g)
    refine ⟨G'', _, ?_, q1, q2, q3⟩
    unfold enumD
    have hj : j < ds.length := by
      rcases Nat.lt_or_ge j ds.length with h | h
      · exact h
      · rw [List.getElem?_eq_none_iff.mpr h] at e3
        cases e3
    rw [List.getElem?_map, List.getElem?_zip_eq_some (z := (j, d)) |>.mpr ⟨List.getElem?_range hj, e3⟩]
    rfl
theorem wlk_zip (i : IsL K G us ds) (i2 : IsL K G ws es) (hk : ∀ σ' ρ' G' H', Go σ ρ G H σ' ρ' G' H' → Rep K G' H' σ' ρ' → SqL K H' a us) (hk2 : ∀ σ' ρ' G' H', Go σ ρ G H σ' ρ' G' H' → Rep K G' H' σ' ρ' → SqL K H' b ws) :
    WlkOk K σ ρ G H (Itz K a b) (zipD ds es) := by
  have hl : (zipD ds es).length = min us.length ws.length := by simp [zipD, i.length, i2.length]
  refine ⟨fun H' => SqL K H' a us ∧ SqL K H' b ws, _, walk_zip hl, fun σ' ρ' G' H' g R => ⟨hk σ' ρ' G' H' g R, hk2 σ' ρ' G' H' g R⟩, ?_⟩
  rintro j Hc x Hc' ⟨T, y, z, rfl, hT, rfl, e1, e2⟩ σ' ρ' G' g R
  obtain ⟨d, e3, e4⟩ := i.getV e1
  obtain ⟨d2, e5, e6⟩ := i2.getV e2
  obtain ⟨G'', q1, q2, q3⟩ := pair_ok R hT (e4.mono g.g) (e6.mono g.g)
  refine ⟨G'', _, ?_, q1, q2, q3⟩
  unfold zipD
  rw [List.getElem?_map, List.getElem?_zip_eq_some (z := (d, d2)) |>.mpr ⟨e3, e5⟩]
  rfl
end

/-! ### the source of a walk -/
def WI (X : Cx) (tg it : Expr) (σ : L2.St) (H : Hp) (R : It → Hp → Prop) : Prop := ∃ wi, PI X tg it wi ∧ wi σ H R
theorem pi_wi {X : Cx} {tg it : Expr} : PI X tg it (WI X tg it) := ⟨fun pins s σ H R I ⟨_, hw, h⟩ => hw.run pins s σ H R I h⟩
theorem WI.mk {X : Cx} {tg it : Expr} {wi : TI} {σ : L2.St} {H : Hp} {R : It → Hp → Prop} (h : PI X tg it wi) (q : wi σ H R) : WI X tg it σ H R := ⟨wi, h, q⟩
section
variable {K : PySem.W.Frag} {G H : Hp} {σ : L2.St} {ρ : Ro}
theorem lock_get : ∀ {lk : List (Nat × Md)} {ρ : Ro} {j : Nat}, LkOk ρ lk → (j ∈ lk.map (·.1) → ∃ d, (lockAll lk ρ)[j]? = some (.ow .lck d)) ∧ (j ∉ lk.map (·.1) → (lockAll lk ρ)[j]? = ρ[j]?)
  | [], ρ, j, _ => ⟨fun h => by simp at h, fun _ => rfl⟩
  | (i, m) :: lk, ρ, j, h => by
    obtain ⟨d, e⟩ := h.2 (i, m) List.mem_cons_self
    have e' : lock1 i ρ = ρ.set i (.ow .lck d) := by
      unfold lock1
      rw [show ρ[i]? = some (.ow m d) from e]
    have h1' := List.nodup_cons.mp (show (i :: lk.map (·.1)).Nodup from h.1)
    show (j ∈ i :: lk.map (·.1) → ∃ d, (lockAll lk (lock1 i ρ))[j]? = _) ∧ (j ∉ i :: lk.map (·.1) → (lockAll lk (lock1 i ρ))[j]? = _)
    rw [e']
    obtain ⟨q1, q2⟩ := lock_get (lk := lk) (j := j) h.tail
    refine ⟨fun hj => ?_, fun hj => ?_⟩
    · by_cases z : j ∈ lk.map (·.1)
      · exact q1 z
      · rcases List.mem_cons.mp hj with rfl | hj
        · exact ⟨d, (q2 z).trans (getSet_self e)⟩
        · exact absurd hj z
    · have n : j ≠ i := fun z => hj (by rw [z]; exact List.mem_cons_self)
      exact (q2 fun z => hj (List.mem_cons_of_mem _ z)).trans (getSet_ne n)
/-- a locked list is not to be changed -/
theorem locked_mo {lk : List (Nat × Md)} {i : Nat} {m : Md} {d : D} {a : Addr} (R : Rep K G H σ ρ) (h : LkOk ρ lk) (hi : (i, m) ∈ lk) (e : ρ[i]? = some (.ow m d)) (ea : σ[i]? = some (some (.ref a))) : ¬ Mo σ (lockAll lk ρ) a := fun ⟨j, m', d', n, q1, q2⟩ => by
  obtain ⟨z1, z2⟩ := lock_get (j := j) h
  by_cases hj : j ∈ lk.map (·.1)
  · obtain ⟨d'', z⟩ := z1 hj
    rw [q1] at z
    injection z with z
    injection z with z _
    exact n z
  · have z := z2 hj
    rw [q1] at z
    have := R.dj j i a ⟨m', d', z.symm, q2⟩ ⟨m, d, e, ea⟩
    exact hj (by rw [this]; exact List.mem_map_of_mem (f := (·.1)) hi)
theorem mo_lockSub {lk : List (Nat × Md)} {a : Addr} (h : LkOk ρ lk) (mo : Mo σ (lockAll lk ρ) a) : Mo σ ρ a := by
  obtain ⟨j, m', d', n, q1, q2⟩ := mo
  obtain ⟨z1, z2⟩ := lock_get (j := j) h
  by_cases hj : j ∈ lk.map (·.1)
  · obtain ⟨d'', z⟩ := z1 hj
    rw [q1] at z
    injection z with z
    injection z with z _
    exact absurd z n
  · exact ⟨j, m', d', n, (z2 hj) ▸ q1, q2⟩
/-- a value that is walked as a list: what is known of it -/
def Src (K : PySem.W.Frag) (σ : L2.St) (ρ : Ro) (G H : Hp) (v : V) (ds : List D) : Prop := ∃ a us, v = .ref a ∧ IsL K G us ds ∧ SqL K H a us ∧ ∀ σ' ρ' G' H', Go σ ρ G H σ' ρ' G' H' → Rep K G' H' σ' ρ' → SqL K H' a us
theorem walkL_ok {b : Bv} {v : V} {ds : List D} {lk lk2 : List (Nat × Md)} (R : Rep K G H σ ρ) (dn : Den K G H σ ρ v b) (h : walkL b ρ = some (ds, lk)) (hl : LkOk ρ lk2) (hs : ∀ p ∈ lk, p ∈ lk2) : Src K σ (lockAll lk2 ρ) G H v ds := by
  have fixd : ∀ {a us}, G a = some (.lst us) → IsL K G us ds → Src K σ (lockAll lk2 ρ) G H (.ref a) ds := fun {a us} e i =>
    ⟨a, us, rfl, i, .inl (.inl (R.ex _ _ e)), fun σ' ρ' G' H' g R' => .inl (.inl (R'.ex _ _ (g.g _ _ e)))⟩
  cases b with
  | va d f =>
    cases d with
    | lst xs =>
      cases h
      cases f with
      | false =>
        cases dn with
        | lst e i => exact fixd e i
      | true =>
        obtain ⟨a, rfl, ⟨c1, us, es, c2, c3, c4⟩, n⟩ := dn
        cases c2
        exact ⟨a, us, rfl, c4, .inl (.inl c3), fun σ' ρ' G' H' g R' => .inl (.inl (g.keep a _ c3 fun mo => by
          obtain ⟨i, q⟩ := mo_ow (mo_lockSub hl mo)
          exact n i q))⟩
    | _ => cases h
  | «at» i =>
    have hv : σ[i]? = some (some v) := dn
    simp only [walkL] at h
    split at h
    · rename_i xs e
      cases h
      obtain ⟨v', z1, z2⟩ := R.sl i _ e
      rw [hv] at z1
      cases z1
      cases z2 with
      | lst e i => exact fixd e i
    · rename_i xs e
      cases h
      obtain ⟨a, us, es, z1, z2, z3, z4⟩ := R.sl i _ e
      rw [hv] at z1
      cases z1
      cases z2
      exact fixd z3 z4
    · rename_i m xs e
      cases h
      obtain ⟨a, z1, c1, us, es, c2, c3, c4⟩ := R.sl i _ e
      rw [hv] at z1
      cases z1
      cases c2
      have nm := locked_mo R hl (hs (i, m) List.mem_cons_self) e hv
      exact ⟨a, us, rfl, c4, .inl (.inl c3), fun σ' ρ' G' H' g R' => .inl (.inl (g.keep a _ c3 nm))⟩
    · cases h
theorem walkL_lk {b : Bv} {ds : List D} {lk : List (Nat × Md)} (h : walkL b ρ = some (ds, lk)) : ∀ p ∈ lk, ∃ d, ρ[p.1]? = some (.ow p.2 d) := by
  cases b with
  | va d f =>
    cases d with
    | lst xs => cases h; intro p hp; cases hp
    | _ => cases h
  | «at» i =>
    simp only [walkL] at h
    split at h
    · cases h; intro p hp; cases hp
    · cases h; intro p hp; cases hp
    · rename_i m xs e
      cases h
      intro p hp
      rcases List.mem_cons.mp hp with rfl | hp
      · exact ⟨_, e⟩
      · cases hp
    · cases h
end
end VE
end

section
set_option Elab.async false
set_option linter.all false
set_option maxRecDepth 100000
set_option maxHeartbeats 1000000
/-! VE9: the sources of walks; for, while. -/
namespace VE
open PySem PySem.Spec L2

def IkOk (M : Mdl) (sc : Scope) (tg it : Expr) : Ik → Prop
  | .gen => True
  | .rng1 a => ∃ p q, it = .Call (.Name "range" p) [a] [] q ∧ isFree M sc "range" = true ∧ notStar a = true
  | .rng2 a b => ∃ p q, it = .Call (.Name "range" p) [a, b] [] q ∧ isFree M sc "range" = true ∧ notStar a = true ∧ notStar b = true
  | .enu a => ∃ p q, it = .Call (.Name "enumerate" p) [a] [] q ∧ isFree M sc "enumerate" = true ∧ notStar a = true ∧ isTupE tg = true
  | .zip a b => ∃ p q, it = .Call (.Name "zip" p) [a, b] [] q ∧ isFree M sc "zip" = true ∧ notStar a = true ∧ notStar b = true ∧ isTupE tg = true
section
variable {M : Mdl} {N : List Str} {E : Ev} {sc : Scope} {k : Nat} {X : Cx} {W : WX} {σ : L2.St} {ρ : Ro} {G H : Hp} {Rr : It → Hp → Prop} (S : Snd M N E)
include S
/-- what is wanted of a walk that begins -/
abbrev IterC (X : Cx) (σ : L2.St) (Rr : It → Hp → Prop) : List D × List (Nat × Md) → Ro → Hp → Hp → Prop := fun w ρ1 G1 H1 => LkOk ρ1 w.2 → ∀ J, WlkOk X.K σ (lockAll w.2 ρ1) G1 H1 J w.1 → Rr J H1
omit S in
theorem lk_nil {ρ : Ro} : LkOk ρ [] := ⟨List.nodup_nil, fun p hp => by cases hp⟩
omit S in
theorem lk_one {b : Bv} {ds : List D} {lk : List (Nat × Md)} (h : walkL b ρ = some (ds, lk)) : LkOk ρ lk := by
  refine ⟨?_, walkL_lk h⟩
  cases b with
  | va d f =>
    cases d with
    | lst xs => cases h; exact List.nodup_nil
    | _ => cases h
  | «at» i =>
    simp only [walkL] at h
    split at h
    · cases h; exact List.nodup_nil
    · cases h; exact List.nodup_nil
    · cases h; simp
    · cases h
theorem iter_gen {tg it : Expr} (O : XOk M N sc k X W) (R : Rep X.K G H σ ρ) (h : Post X.mg X.K W σ ρ G H ((E.e sc it ρ).bind fun b ρ1 => Rs.of (walkB b ρ1) ρ1) (IterC X σ Rr)) : WI X tg it σ H Rr := by
  -- a tuple, or a list
  by_cases ht : ∃ xs f ρ1, E.e sc it ρ = .ok (.va (.tup xs) f) ρ1
  · obtain ⟨xs, f, ρ1, q⟩ := ht
    refine WI.mk (pi_tup pe_we) ?_
    refine S.e O R (h.bind.imp fun b ρ1 G1 H1 eq g1 e1 R1 h1 v ov => ?_)
    rw [q] at eq
    cases eq
    have it := At.isTup (Den.deref R1 ov.1 rfl)
    cases it with
    | tup hh il =>
      exact ⟨_, rfl, ⟨_, sqT_mono R1.ex hh⟩, h1.here R1 lk_nil _ (wlk_tup il hh)⟩
  · refine WI.mk (pi_list pe_we) ?_
    refine S.e O R (h.bind.imp fun b ρ1 G1 H1 eq g1 e1 R1 h1 v ov => ?_)
    obtain ⟨w, hw, h2⟩ := Post.of_none h1
    obtain ⟨ds, lk⟩ := w
    have key : LkOk ρ1 lk → Src X.K σ (lockAll lk ρ1) G1 H1 v ds → ∃ a, v = V.ref a ∧ (∃ xs, SqL X.K H1 a xs) ∧ Rr (Itl X.K a) H1 := fun hl src => by
      obtain ⟨a, us, rfl, il, s1, s2⟩ := src
      exact ⟨a, rfl, ⟨us, s1⟩, h2.here R1 hl _ (wlk_list il s2)⟩
    have lst : walkL b ρ1 = some (ds, lk) → ∃ a, v = V.ref a ∧ (∃ xs, SqL X.K H1 a xs) ∧ Rr (Itl X.K a) H1 := fun hw => by
      have hl := lk_one hw
      exact key hl (walkL_ok R1 ov.1 hw hl fun p hp => hp)
    cases b with
    | «at» i => exact lst hw
    | va d f =>
      cases d with
      | tup _ => exact absurd ⟨_, f, ρ1, eq⟩ ht
      | scr xs =>
        cases hw
        have q := Den.deref R1 ov.1 rfl
        rcases q with q | ⟨_, _, _, _, _, z, _⟩
        · cases q with
          | scr hh il => exact key lk_nil ⟨_, _, rfl, il, sqL_mono R1.ex hh, fun σ' ρ' G' H' g R' => sqL_mono (g.g.trans R'.ex) hh⟩
        · cases z
      | _ => exact lst hw
omit S in
theorem small_of {i : Int} (h : small62 i = true) : -(2 ^ 62) ≤ i ∧ i < 2 ^ 62 := by
  simp only [small62, Bool.and_eq_true, decide_eq_true_eq] at h
  exact h
omit S in
theorem iterK_ok {tg it : Expr} : IkOk M sc tg it (iterK M sc tg it) := by
  unfold iterK
  split
  · rename_i f p a q
    split
    · rename_i c
      obtain ⟨c1, c2⟩ := Bool.and_eq_true_iff.mp c
      split
      · rename_i e
        subst e
        exact ⟨p, q, rfl, c1, c2⟩
      · split
        · rename_i e
          subst e
          split
          · rename_i c3
            exact ⟨p, q, rfl, c1, c2, c3⟩
          · exact True.intro
        · exact True.intro
    · exact True.intro
  · rename_i f p a b q
    split
    · rename_i c
      obtain ⟨c1, c2⟩ := Bool.and_eq_true_iff.mp c
      obtain ⟨c2, c3⟩ := Bool.and_eq_true_iff.mp c2
      split
      · rename_i e
        subst e
        exact ⟨p, q, rfl, c1, c2, c3⟩
      · split
        · rename_i e
          subst e
          split
          · rename_i c4
            exact ⟨p, q, rfl, c1, c2, c3, c4⟩
          · exact True.intro
        · exact True.intro
    · exact True.intro
  · exact True.intro
theorem snd_iter {tg it : Expr} (O : XOk M N sc k X W) (R : Rep X.K G H σ ρ) (h : Post X.mg X.K W σ ρ G H (iterS M E sc tg it ρ) (IterC X σ Rr)) : WI X tg it σ H Rr := by
  have kk := iterK_ok (M := M) (sc := sc) (tg := tg) (it := it)
  unfold iterS at h
  split at h
  · exact iter_gen S O R h
  · rename_i a e
    rw [e] at kk
    obtain ⟨p, q, rfl, c1, hs⟩ := kk
    obtain ⟨hg, hm, _⟩ := isFree_mg O c1
    refine WI.mk (pi_range1 hg hm (pa_cons pe_we pa_nil (star_cons hs)) (star_cons hs)) ?_
    refine S.e O R (h.bind.imp fun b ρ1 G1 H1 _ g1 e1 R1 h1 v ov => ?_)
    split at h1
    · rename_i j ej
      split at h1
      · rename_i cc
        obtain ⟨s1, s2⟩ := small_of cc
        exact ⟨j, by rw [(ov.1.deref R1 ej).int], s1, s2, h1.here R1 lk_nil _ wlk_range⟩
      · exact h1.elim
    · exact h1.elim
  · rename_i a b e
    rw [e] at kk
    obtain ⟨p, q, rfl, c1, hs, hs2⟩ := kk
    obtain ⟨hg, hm, _⟩ := isFree_mg O c1
    refine WI.mk (pi_range2 hg hm (pa_cons pe_we (pa_cons pe_we pa_nil (star_cons hs2)) (star_cons hs)) (by rw [star_cons hs, star_cons hs2]; rfl) (star_cons hs2)) ?_
    refine S.e O R (h.bind.imp fun x ρ1 G1 H1 _ g1 e1 R1 h1 vx ox => ?_)
    refine S.e O R1 (h1.bind.imp fun y ρ2 G2 H2 _ g2 e2 R2 h2 vy oy => ?_)
    split at h2
    · rename_i i j ei ej
      split at h2
      · rename_i cc
        obtain ⟨cc1, cc2⟩ := Bool.and_eq_true_iff.mp cc
        obtain ⟨s1, s2⟩ := small_of cc1
        obtain ⟨s3, s4⟩ := small_of cc2
        exact ⟨i, j, by rw [((ox.1.go g2 e2).deref R2 ei).int, (oy.1.deref R2 ej).int], ⟨s1, s2, s3, s4⟩, h2.here R2 lk_nil _ wlk_range⟩
      · exact h2.elim
    · exact h2.elim
  · rename_i a e
    rw [e] at kk
    obtain ⟨p, q, rfl, c1, hs, ht⟩ := kk
    obtain ⟨hg, hm, _⟩ := isFree_mg O c1
    cases tg with
    | Tuple es j tp =>
      refine WI.mk (pi_enum hg hm (pa_cons pe_we pa_nil (star_cons hs)) (star_cons hs)) ?_
      refine S.e O R (h.bind.imp fun b ρ1 G1 H1 _ g1 e1 R1 h1 v ov => ?_)
      obtain ⟨w, hw, h2⟩ := Post.of_none h1
      obtain ⟨⟨ds, lk⟩, hwl, rfl⟩ := map_some hw
      have hl := lk_one hwl
      obtain ⟨a', us, rfl, il, s1, s2⟩ := walkL_ok R1 ov.1 hwl hl fun p hp => hp
      exact ⟨a', us, rfl, s1, h2.here R1 hl _ (wlk_enum il s2)⟩
    | _ => cases ht
  · rename_i a b e
    rw [e] at kk
    obtain ⟨p, q, rfl, c1, hs, hs2, ht⟩ := kk
    obtain ⟨hg, hm, _⟩ := isFree_mg O c1
    cases tg with
    | Tuple es j tp =>
      refine WI.mk (pi_zip hg hm (pa_cons pe_we (pa_cons pe_we pa_nil (star_cons hs2)) (star_cons hs)) (star_cons hs) (star_none (by simp [hs2]))) ?_
      refine S.e O R (h.bind.imp fun x ρ1 G1 H1 _ g1 e1 R1 h1 vx ox => ?_)
      refine S.e O R1 (h1.bind.imp fun y ρ2 G2 H2 _ g2 e2 R2 h2 vy oy => ?_)
      obtain ⟨w, hw, h3⟩ := Post.of_none h2
      obtain ⟨⟨ds, lk⟩, hw1, hw⟩ := bind_some' hw
      obtain ⟨⟨es', lk2⟩, hw2, hw⟩ := bind_some' hw
      split at hw
      · rename_i nd
        cases hw
        have hl : LkOk ρ2 (lk ++ lk2) := ⟨of_decide_eq_true nd, fun p hp => (List.mem_append.mp hp).elim (walkL_lk hw1 p) (walkL_lk hw2 p)⟩
        obtain ⟨a', us, rfl, il, s1, s2⟩ := walkL_ok R2 (ox.1.go g2 e2) hw1 hl fun p hp => List.mem_append_left _ hp
        obtain ⟨b', ws, rfl, il2, s3, s4⟩ := walkL_ok R2 oy.1 hw2 hl fun p hp => List.mem_append_right _ hp
        exact ⟨a', b', us, ws, rfl, s1, s3, h3.here R2 hl _ (wlk_zip il il2 s2 s4)⟩
      · cases hw
    | _ => cases ht

/-! ### for -/
omit S in
theorem unlock_ow {σ : L2.St} {i : Nat} {a : Addr} : ∀ {lk : List (Nat × Md)} {ρ : Ro}, OwAt σ (unlockAll lk ρ) i a → OwAt σ ρ i a
  | [], ρ, o => o
  | (j, m) :: lk, ρ, o => by
    have o' : OwAt σ (unlock1 j m (unlockAll lk ρ)) i a := o
    unfold unlock1 at o'
    split at o'
    · rename_i d e
      obtain ⟨m', d', q1, q2⟩ := o'
      rcases getSet q1 with ⟨rfl, z⟩ | ⟨_, z⟩
      · exact unlock_ow ⟨.lck, d, e, q2⟩
      · exact unlock_ow ⟨m', d', z, q2⟩
    · exact unlock_ow o'
omit S in
theorem PostF.unlock {D' : Ends} {lk : List (Nat × Md)} {r : Rf} {K : PySem.W.Frag} {mg : Str → Option Value} (hl : LkOk ρ lk) (h : PostF mg K W σ ρ G H (r.map (unlockAll lk)) D') : PostF mg K W σ (lockAll lk ρ) G H r D' := by
  cases r with
  | stuck => exact h
  | next ρ' => exact fun σ' G' H' g R => let ⟨g2, R2⟩ := unlock_ok hl g R; h σ' G' H' g2 R2
  | brk ρ' => exact fun σ' G' H' g R => let ⟨g2, R2⟩ := unlock_ok hl g R; h σ' G' H' g2 R2
  | cnt ρ' => exact fun σ' G' H' g R => let ⟨g2, R2⟩ := unlock_ok hl g R; h σ' G' H' g2 R2
  | exc c fs ρ' => exact fun cls dd σ' G' H' g R => let ⟨g2, R2⟩ := unlock_ok hl g R; h cls dd σ' G' H' g2 R2
  | ret b ρ' =>
    exact fun v σ' G' H' g R dn nw => by
      obtain ⟨g2, R2⟩ := unlock_ok hl g R
      refine h v σ' G' H' g2 R2 ?_ nw
      cases b with
      | «at» i => exact dn
      | va d f =>
        cases f with
        | false => exact dn
        | true =>
          obtain ⟨a, rfl, c, n⟩ := dn
          exact ⟨a, rfl, c, fun i o => n i (unlock_ow o)⟩
theorem for_ok {asg : D → Ro → Option Ro} {body : Ro → Rf} {J : It} {g : TG} {tb : TS} {D' : Ends} {K : PySem.W.Frag} {mg : Str → Option Value} {ρl : Ro} {ds : List D} {H1 : Hp}
    (hg : ∀ {v : V} {d : D} {σ : L2.St} {ρ ρ' : Ro} {G H : Hp} {Q : L2.St → Hp → Prop}, asg d ρ = some ρ' → Is K G v d → Rep K G H σ ρ → (∀ σ', Go σ ρ G H σ' ρ' G H → Rep K G H σ' ρ' → Q σ' H) → g v σ H Q)
    (hb : ∀ {σ : L2.St} {ρ : Ro} {G H : Hp} {D' : Ends}, Rep K G H σ ρ → PostF mg K W σ ρ G H (body ρ) D' → tb D' σ H)
    (R : Rep K G H1 σ ρl) (wk : WlkOk K σ ρl G H1 J ds) (h : PostF mg K W σ ρl G H1 (loopF asg body ds ρl) D') :
    ∃ W' : Nat → Nat → L2.St → Hp → Prop, (∃ m, W' 0 m σ H1) ∧ ∀ i m σ H, W' i m σ H →
      (J.stop i H ∧ D'.nx σ H) ∨ (J.go i H ∧ ∃ N : L2.St → Hp → Prop, (∀ σ' H', N σ' H' → ∃ m', m' < m ∧ W' (i + 1) m' σ' H') ∧ ∀ x H', J.yld i H x H' → g x σ H' fun σ2 H2 => tb { D' with nx := N, ct := N, bk := D'.nx } σ2 H2) := by
  obtain ⟨Gp, Y, w, hGp, hY⟩ := wk
  refine for_it w (D := D') (fun i σ' H' => ∃ ρ' G', Go σ ρl G H1 σ' ρ' G' H' ∧ Rep K G' H' σ' ρ' ∧ PostF mg K W σ' ρ' G' H' (loopF asg body (ds.drop i) ρ') D') ⟨ρl, G, Go.refl, R, h⟩
    (fun i σ' H' _ ⟨ρ', G', g1, R1, _⟩ => hGp σ' ρ' G' H' g1 R1) (fun i x σ' Hc Hc' hi ⟨ρ', G', g1, R1, h1⟩ y => ?_) fun σ' H' ⟨ρ', G', g1, R1, h1⟩ => ?_
  · obtain ⟨G2, d, e1, i2, g2, R2⟩ := hY i Hc x Hc' y σ' ρ' G' g1 R1
    have e2 : ds.drop i = d :: ds.drop (i + 1) := by
      rw [List.getElem?_eq_some_iff] at e1
      obtain ⟨hh, e1⟩ := e1
      rw [← e1]
      exact List.drop_eq_getElem_cons hh
    rw [e2] at h1
    simp only [loopF] at h1
    cases ea : asg d ρ' with
    | none => rw [ea] at h1; exact h1.elim
    | some ρ2 =>
      rw [ea] at h1
      refine hg ea i2 R2 fun σ2 g3 R3 => hb R3 ?_
      have g12 := (g1.trans g2).trans g3
      have h2 := PostF.later (r := (match body ρ2 with
        | .next ρ2 => loopF asg body (ds.drop (i + 1)) ρ2
        | .cnt ρ2 => loopF asg body (ds.drop (i + 1)) ρ2
        | .brk ρ2 => .next ρ2
        | r => r)) h1 (g2.trans g3)
      cases eb : body ρ2 with
      | stuck => rw [eb] at h2; exact h2
      | next ρ3 =>
        rw [eb] at h2
        exact fun σ3 G3 H3 g4 R4 => ⟨ρ3, G3, g12.trans g4, R4, PostF.later h2 g4⟩
      | cnt ρ3 =>
        rw [eb] at h2
        exact fun σ3 G3 H3 g4 R4 => ⟨ρ3, G3, g12.trans g4, R4, PostF.later h2 g4⟩
      | brk ρ3 =>
        rw [eb] at h2
        exact fun σ3 G3 H3 g4 R4 => h2 σ3 G3 H3 g4 R4
      | ret b ρ3 =>
        rw [eb] at h2
        exact h2
      | exc c fs ρ3 =>
        rw [eb] at h2
        exact h2
  · rw [List.drop_length] at h1
    exact h1 σ' G' H' Go.refl R1
theorem snd_for {tg it : Expr} {body : List Stmt} {p : Pos} {D' : Ends} (O : XOk M N sc k X W) (Fm : Frm X) (R : Rep X.K G H σ ρ) (h : PostF X.mg X.K W σ ρ G H (stepS M N E sc (.For tg it body [] p) ρ) D') : WS X (.For tg it body [] p) D' σ H := by
  simp only [stepS] at h
  split at h
  · rename_i c
    obtain ⟨c1, c2⟩ := Bool.and_eq_true_iff.mp c
    obtain ⟨g, hg, hq⟩ := tg_ok O c1
    refine WS.mk (ps_for O.hp O.calm pi_wi hg pss_wss (fold_set (by simpa using c2))) ?_
    refine snd_iter S O R (h.bind.imp fun w ρ1 G1 H1 _ g1 e1 R1 h1 hl J wk => ?_)
    exact for_ok S (fun ha i R q => hq ha i R fun σ' g R' _ => q σ' g R') (fun R' h' => S.ss O Fm R' h') (lock_rep hl R1) wk (PostF.unlock hl h1)
  · exact h.elim
/-! ### while -/
theorem snd_while {c : Expr} {body : List Stmt} {p : Pos} {D' : Ends} (O : XOk M N sc k X W) (Fm : Frm X) (R : Rep X.K G H σ ρ) (h : PostF X.mg X.K W σ ρ G H (stepS M N E sc (.While c body [] p) ρ) D') : WS X (.While c body [] p) D' σ H := by
  simp only [stepS] at h
  generalize (1000000 : Nat) = kk at h
  refine WS.mk (ps_while O.hp pt_wt pss_wss) ?_
  refine ⟨fun m σ' H' => ∃ ρ' G', Rep X.K G' H' σ' ρ' ∧ PostF X.mg X.K W σ' ρ' G' H' (loopW (E.t sc c) (E.ss sc body) m ρ') D', ⟨kk, ρ, G, R, h⟩, ?_⟩
  rintro m σ' H' ⟨ρ', G', R', h'⟩
  cases m with
  | zero => exact h'.elim
  | succ m =>
    simp only [loopW] at h'
    have h2 : PostF X.mg X.K W σ' ρ' G' H' ((E.t sc c ρ').toF fun b ρ1 => if b then (match E.ss sc body ρ1 with
      | .next ρ2 => loopW (E.t sc c) (E.ss sc body) m ρ2
      | .cnt ρ2 => loopW (E.t sc c) (E.ss sc body) m ρ2
      | .brk ρ2 => .next ρ2
      | r => r) else .next ρ1) D' := by
      cases q : E.t sc c ρ' with
      | stuck => rw [q] at h'; exact h'
      | ok b ρ1 => rw [q] at h'; exact h'
      | exc c' fs ρ1 => rw [q] at h'; exact h'
    refine S.t O R' (h2.bind.imp fun b ρ1 G1 H1 _ g1 e1 R1 h3 => ?_)
    cases b with
    | false =>
      rw [if_neg Bool.false_ne_true] at h3 ⊢
      exact h3 σ' G1 H1 Go.refl R1
    | true =>
      rw [if_pos rfl] at h3 ⊢
      refine ⟨fun σ2 H2 => ∃ ρ2 G2, Rep X.K G2 H2 σ2 ρ2 ∧ PostF X.mg X.K W σ2 ρ2 G2 H2 (loopW (E.t sc c) (E.ss sc body) m ρ2) D', fun σ2 H2 hn => ⟨m, Nat.lt_succ_self m, hn⟩, ?_⟩
      refine S.ss O Fm R1 ?_
      cases eb : E.ss sc body ρ1 with
      | stuck => rw [eb] at h3; exact h3
      | next ρ3 =>
        rw [eb] at h3
        exact fun σ3 G3 H3 g4 R4 => ⟨ρ3, G3, R4, PostF.later h3 g4⟩
      | cnt ρ3 =>
        rw [eb] at h3
        exact fun σ3 G3 H3 g4 R4 => ⟨ρ3, G3, R4, PostF.later h3 g4⟩
      | brk ρ3 =>
        rw [eb] at h3
        exact fun σ3 G3 H3 g4 R4 => h3 σ3 G3 H3 g4 R4
      | ret b ρ3 =>
        rw [eb] at h3
        exact h3
      | exc c fs ρ3 =>
        rw [eb] at h3
        exact h3
end
end VE
end

section
set_option Elab.async false
set_option linter.all false
set_option maxRecDepth 100000
set_option maxHeartbeats 1000000
/-! VE10: list comprehensions. -/
namespace VE
open PySem PySem.Spec L2

/-! ### wiped slots -/
section
variable {K : PySem.W.Frag} {G H G' H' : Hp} {σ σ' : L2.St} {ρ ρ' old : Ro} {idx : List Nat}
theorem wipe_out' {j : Nat} : ∀ {vs : List Nat}, j ∉ vs → (wipe σ vs)[j]? = σ[j]?
  | [], _ => rfl
  | v :: vs, h => by
    have h1 : j ≠ v := fun z => h (by rw [z]; exact List.mem_cons_self)
    have h2 : j ∉ vs := fun z => h (List.mem_cons_of_mem _ z)
    show ((wipe σ vs).set v none)[j]? = _
    rw [List.getElem?_set_ne (Ne.symm h1), wipe_out' h2]
theorem wipe_in {j : Nat} : ∀ {vs : List Nat}, j ∈ vs → j < σ.length → (wipe σ vs)[j]? = some none
  | v :: vs, h, hl => by
    show ((wipe σ vs).set v none)[j]? = _
    by_cases e : j = v
    · subst e
      rw [List.getElem?_set_self (by rw [wipe_length]; exact hl)]
    · rw [List.getElem?_set_ne (Ne.symm e)]
      exact wipe_in ((List.mem_cons.mp h).resolve_left e) hl
theorem wipeR_len : ∀ vs : List Nat, (wipeR vs ρ).length = ρ.length
  | [] => rfl
  | v :: vs => by
    show ((wipeR vs ρ).set v .un).length = _
    rw [List.length_set, wipeR_len vs]
theorem wipeR_out {j : Nat} : ∀ {vs : List Nat}, j ∉ vs → (wipeR vs ρ)[j]? = ρ[j]?
  | [], _ => rfl
  | v :: vs, h => by
    have h1 : j ≠ v := fun z => h (by rw [z]; exact List.mem_cons_self)
    have h2 : j ∉ vs := fun z => h (List.mem_cons_of_mem _ z)
    show ((wipeR vs ρ).set v .un)[j]? = _
    rw [List.getElem?_set_ne (Ne.symm h1), wipeR_out h2]
theorem wipeR_in {j : Nat} : ∀ {vs : List Nat}, j ∈ vs → j < ρ.length → (wipeR vs ρ)[j]? = some .un
  | v :: vs, h, hl => by
    show ((wipeR vs ρ).set v .un)[j]? = _
    by_cases e : j = v
    · subst e
      rw [List.getElem?_set_self (by rw [wipeR_len]; exact hl)]
    · rw [List.getElem?_set_ne (Ne.symm e)]
      exact wipeR_in ((List.mem_cons.mp h).resolve_left e) hl
theorem unwipe_len : ∀ vs : List Nat, (unwipe old vs ρ).length = ρ.length
  | [] => rfl
  | v :: vs => by
    show ((unwipe old vs ρ).set v _).length = _
    rw [List.length_set, unwipe_len vs]
theorem unwipe_out {j : Nat} : ∀ {vs : List Nat}, j ∉ vs → (unwipe old vs ρ)[j]? = ρ[j]?
  | [], _ => rfl
  | v :: vs, h => by
    have h1 : j ≠ v := fun z => h (by rw [z]; exact List.mem_cons_self)
    have h2 : j ∉ vs := fun z => h (List.mem_cons_of_mem _ z)
    show ((unwipe old vs ρ).set v _)[j]? = _
    rw [List.getElem?_set_ne (Ne.symm h1), unwipe_out h2]
theorem unwipe_in {j : Nat} {s : Sl} (hs : old[j]? = some s) : ∀ {vs : List Nat}, j ∈ vs → j < ρ.length → (unwipe old vs ρ)[j]? = some s
  | v :: vs, h, hl => by
    show ((unwipe old vs ρ).set v (old.getD v .un))[j]? = _
    by_cases e : j = v
    · subst e
      rw [List.getElem?_set_self (by rw [unwipe_len]; exact hl), List.getD_eq_getElem?_getD, hs]
      rfl
    · rw [List.getElem?_set_ne (Ne.symm e)]
      exact unwipe_in hs ((List.mem_cons.mp h).resolve_left e) hl
/-- flat slots at these places -/
def FlatAt (ρ : Ro) (idx : List Nat) : Prop := ∀ i ∈ idx, flatSl ρ[i]? = true
theorem FlatAt.get {j : Nat} {s : Sl} (f : FlatAt ρ idx) (h : j ∈ idx) (e : ρ[j]? = some s) : pinned s = false ∧ isOw s = false := by
  have z := f j h
  rw [e] at z
  cases s <;> first | exact ⟨rfl, rfl⟩ | cases z
theorem lt_get {α : Type} {l : List α} {j : Nat} {a : α} (h : l[j]? = some a) : j < l.length := by
  rcases Nat.lt_or_ge j l.length with q | q
  · exact q
  · rw [List.getElem?_eq_none_iff.mpr q] at h
    cases h
theorem wipe_ok (R : Rep K G H σ ρ) (f : FlatAt ρ idx) : Go σ ρ G H (wipe σ idx) (wipeR idx ρ) G H ∧ Rep K G H (wipe σ idx) (wipeR idx ρ) := by
  have get : ∀ {j : Nat} {s : Sl}, (wipeR idx ρ)[j]? = some s → (j ∈ idx ∧ s = .un ∧ (wipe σ idx)[j]? = some none) ∨ (j ∉ idx ∧ ρ[j]? = some s ∧ (wipe σ idx)[j]? = σ[j]?) := fun {j s} e => by
    have hl : j < ρ.length := by
      have := lt_get e
      rw [wipeR_len] at this
      exact this
    by_cases h : j ∈ idx
    · rw [wipeR_in h hl] at e
      exact .inl ⟨h, (Option.some.inj e).symm, wipe_in h (by rw [R.len]; exact hl)⟩
    · rw [wipeR_out h] at e
      exact .inr ⟨h, e, wipe_out' h⟩
  have owAt : ∀ j a, OwAt (wipe σ idx) (wipeR idx ρ) j a → OwAt σ ρ j a := fun j a o => by
    obtain ⟨m, d, e1, e2⟩ := o
    rcases get e1 with ⟨_, z, _⟩ | ⟨_, z1, z2⟩
    · cases z
    · rw [z2] at e2
      exact ⟨m, d, z1, e2⟩
  refine ⟨⟨Same.refl _, fun _ _ e _ => e, fun _ _ _ g _ => g, fun a mo => ?_, fun j s e p => ?_, fun _ e => e⟩, ⟨R.ex, by rw [wipe_length, wipeR_len, R.len], fun j s e => ?_, fun i j a o1 o2 => R.dj i j a (owAt i a o1) (owAt j a o2)⟩⟩
  · obtain ⟨j, m, d, n, e1, e2⟩ := mo
    rcases get e1 with ⟨_, z, _⟩ | ⟨_, z1, z2⟩
    · cases z
    · rw [z2] at e2
      exact .inl ⟨j, m, d, n, z1, e2⟩
  · have hj : j ∉ idx := fun h => by
      have := (f.get h e).1
      rw [p] at this
      cases this
    exact ⟨wipe_out' hj, s, by rw [wipeR_out hj]; exact e, PinTo.refl s⟩
  · rcases get e with ⟨_, z, z2⟩ | ⟨_, z1, z2⟩
    · subst z
      exact z2
    · rw [z2]
      exact R.sl j s z1
theorem unwipe_ok (R0 : Rep K G H σ ρ) (f : FlatAt ρ idx) (g : Go (wipe σ idx) (wipeR idx ρ) G H (wipe σ idx) ρ' G' H') (R : Rep K G' H' (wipe σ idx) ρ') (ev : Evo (wipeR idx ρ) ρ') :
    Go σ ρ G H σ (unwipe ρ idx ρ') G' H' ∧ Rep K G' H' σ (unwipe ρ idx ρ') ∧ Evo ρ (unwipe ρ idx ρ') := by
  have len : ρ'.length = ρ.length := by rw [ev.len, wipeR_len]
  have get : ∀ {j : Nat} {s : Sl}, (unwipe ρ idx ρ')[j]? = some s → (j ∈ idx ∧ ρ[j]? = some s) ∨ (j ∉ idx ∧ ρ'[j]? = some s ∧ (wipe σ idx)[j]? = σ[j]?) := fun {j s} e => by
    have hl : j < ρ'.length := by
      have := lt_get e
      rw [unwipe_len] at this
      exact this
    by_cases h : j ∈ idx
    · obtain ⟨s0, e0⟩ : ∃ s0, ρ[j]? = some s0 := ⟨_, List.getElem?_eq_getElem (by omega)⟩
      rw [unwipe_in e0 h hl] at e
      exact .inl ⟨h, by rw [e0, e]⟩
    · rw [unwipe_out h] at e
      exact .inr ⟨h, e, wipe_out' h⟩
  have owAt : ∀ j a, OwAt σ (unwipe ρ idx ρ') j a → OwAt (wipe σ idx) ρ' j a := fun j a o => by
    obtain ⟨m, d, e1, e2⟩ := o
    rcases get e1 with ⟨h, z⟩ | ⟨_, z1, z2⟩
    · have := (f.get h z).2
      cases this
    · rw [← z2] at e2
      exact ⟨m, d, z1, e2⟩
  have moS : ∀ a, Mo (wipe σ idx) (wipeR idx ρ) a → Mo σ ρ a := fun a mo => by
    rcases (wipe_ok R0 f).1.own a mo with z | z
    · exact z
    · obtain ⟨i, o⟩ := mo_ow mo
      exact absurd z (by
        obtain ⟨m, d, e1, e2⟩ := o
        obtain ⟨a', q1, _, xs, _, _, q4, _⟩ := (wipe_ok R0 f).2.sl i _ e1
        rw [e2] at q1
        cases q1
        rw [q4]
        exact fun z => by cases z)
  refine ⟨⟨g.g, fun a o e n => g.keep a o e fun mo => n (moS a mo), fun a o e z n => g.fr a o e z fun mo => n (moS a mo), fun a mo => ?_, fun j s e p => ?_, g.there⟩, ⟨R.ex, by rw [unwipe_len, len]; exact R0.len, fun j s e => ?_, fun i j a o1 o2 => R.dj i j a (owAt i a o1) (owAt j a o2)⟩, ⟨by rw [unwipe_len, len], fun j m d e => ?_, fun j s e n => ?_⟩⟩
  · obtain ⟨j, m, d, n, e1, e2⟩ := mo
    rcases get e1 with ⟨h, z⟩ | ⟨_, z1, z2⟩
    · have := (f.get h z).2
      cases this
    · rw [← z2] at e2
      exact (g.own a ⟨j, m, d, n, z1, e2⟩).imp (moS a) id
  · have hj : j ∉ idx := fun h => by
      have := (f.get h e).1
      rw [p] at this
      cases this
    obtain ⟨_, s', z2, z3⟩ := g.pin j s (by rw [wipeR_out hj]; exact e) p
    exact ⟨rfl, s', by rw [unwipe_out hj]; exact z2, z3⟩
  · rcases get e with ⟨h, z⟩ | ⟨_, z1, z2⟩
    · exact (R0.sl j s z).later g.g fun m a d es ex c => by
        have := (f.get h z).2
        rw [es] at this
        cases this
    · rw [← z2]
      exact R.sl j s z1
  · rcases get e with ⟨h, z⟩ | ⟨hj, z1, z2⟩
    · have := (f.get h z).2
      cases this
    · obtain ⟨d', q⟩ := ev.ow j m d z1
      rw [wipeR_out hj] at q
      exact ⟨d', q⟩
  · by_cases h : j ∈ idx
    · exact unwipe_in e h (by rw [len]; exact lt_get e)
    · rw [unwipe_out h]
      exact ev.stay j s (by rw [wipeR_out h]; exact e) n
/-- the block's names again empty, behind a turn -/
theorem turn_end {σ2 : L2.St} {ρ1 ρ2 : Ro} (o : OutSame idx (wipe σ idx) σ2 ρ ρ1) (ev : Evo ρ1 ρ2) (hw : ∀ i ∈ idx, i < ρ.length → ρ[i]? = some .un) (hf : FlatAt ρ1 idx) (hlen : σ.length = ρ.length) :
    wipe σ2 idx = wipe σ idx ∧ Evo ρ (wipeR idx ρ2) ∧ FlatAt ρ2 idx := by
  refine ⟨List.ext_getElem? fun j => ?_, ⟨by rw [wipeR_len, ev.len, o.2.1], fun j m d e => ?_, fun j s e n => ?_⟩, fun i hi => ?_⟩
  · by_cases h : j ∈ idx
    · rcases Nat.lt_or_ge j σ.length with q | q
      · rw [wipe_in h q, wipe_in h (by rw [o.1, wipe_length]; exact q)]
      · rw [List.getElem?_eq_none_iff.mpr (show (wipe σ2 idx).length ≤ j by rw [wipe_length, o.1, wipe_length]; exact q), List.getElem?_eq_none_iff.mpr (show (wipe σ idx).length ≤ j by rw [wipe_length]; exact q)]
    · rw [wipe_out' h, (o.2.2 j h).1]
  · by_cases h : j ∈ idx
    · have hl := lt_get e
      rw [wipeR_len] at hl
      rw [wipeR_in h hl] at e
      cases e
    · rw [wipeR_out h] at e
      obtain ⟨d', q⟩ := ev.ow j m d e
      exact ⟨d', (o.2.2 j h).2 ▸ q⟩
  · by_cases h : j ∈ idx
    · have z := hw j h (lt_get e)
      rw [z] at e
      cases e
      exact wipeR_in h (by rw [ev.len, o.2.1]; exact lt_get z)
    · rw [wipeR_out h]
      exact ev.stay j s (by rw [(o.2.2 j h).2]; exact e) n
  · have z := hf i hi
    cases q : ρ1[i]? with
    | none => rw [q] at z; cases z
    | some s =>
      have := (hf.get hi q).2
      rw [ev.stay i s q this]
      rw [q] at z
      exact z
end
end VE
end

section
set_option Elab.async false
set_option linter.all false
set_option maxRecDepth 100000
set_option maxHeartbeats 1000000
/-! VE11: list comprehensions are sound. -/
namespace VE
open PySem PySem.Spec L2

theorem rel_relS {sc : Scope} (x : Str) : ∀ names : List (Str × NameKind),
    (names.map fun (n, k) => if (k == NameKind.free && sc.kind == .function && sc.names.lookup n == some .cell) then (n, NameKind.cell) else (n, k)).lookup x = names.lookup x ∨
    (names.lookup x = some .free ∧ (names.map fun (n, k) => if (k == NameKind.free && sc.kind == .function && sc.names.lookup n == some .cell) then (n, NameKind.cell) else (n, k)).lookup x = some .cell)
  | [] => .inl rfl
  | (n, k) :: r => by
    have ih := rel_relS (sc := sc) x r
    show List.lookup x ((if (k == NameKind.free && sc.kind == .function && sc.names.lookup n == some .cell) = true then (n, NameKind.cell) else (n, k)) :: _) = _ ∨ (_ ∧ List.lookup x ((if (k == NameKind.free && sc.kind == .function && sc.names.lookup n == some .cell) = true then (n, NameKind.cell) else (n, k)) :: _) = _)
    cases hx : x == n with
    | true =>
      by_cases hc : (k == NameKind.free && sc.kind == .function && sc.names.lookup n == some .cell) = true
      · rw [if_pos hc]
        simp only [Bool.and_eq_true, beq_iff_eq] at hc
        refine .inr ⟨?_, ?_⟩
        · simp only [List.lookup_cons, hx, hc.1.1]
        · simp only [List.lookup_cons, hx]
      · rw [if_neg hc]
        refine .inl ?_
        simp only [List.lookup_cons, hx]
    | false =>
      by_cases hc : (k == NameKind.free && sc.kind == .function && sc.names.lookup n == some .cell) = true
      · rw [if_pos hc]
        simp only [List.lookup_cons, hx]
        exact ih
      · rw [if_neg hc]
        simp only [List.lookup_cons, hx]
        exact ih
section
variable {M : Mdl} {N : List Str} {E : Ev} {sc scope : Scope} {k : Nat} {X : Cx} {W : WX} {own : List (Str × Nat)} {idx : List Nat}
theorem blk_ok (O : XOk M N sc k X W) (hk : scope.kind = .function) (s : Shared) (H : Hp) (C : Addr) (cl : List (Str × Addr)) (fp : List Addr) :
    XOk M N scope k (X.blk s H scope (compEnvC scope cl C X.env) fp) (fun _ _ _ _ => False) where
  nm := O.nm
  nd := O.nd
  rel := fun x => rel_relS x scope.names
  fn := fun x e => by
    show (scope.names.lookup x == some .cell) = true
    rw [e]
    rfl
  kind := hk
  calm := O.calm
  room := O.room
  tk := fun u s' ⟨_, _, _, _, _, _, _, _, _, _, _, _, _, _, _, _, w⟩ => w
  hp := PassesOwn.never
  md := O.md
theorem blk_free (O : XOk M N sc k X W) (ok : BlkOk N sc scope own) : BlkOk X.N X.env.scope scope own := by
  rw [O.nm]
  refine ⟨ok.kind, ok.uniq, ok.ix, fun y hy e => ?_, ok.own⟩
  rcases O.rel y.1 with q | ⟨_, q⟩
  · rw [q]
    exact ok.free y hy e
  · exact .inl q
/-! ### the block's names -/
theorem mapM_len {α β : Type} {f : α → Option β} : ∀ {xs : List α} {ys : List β}, xs.mapM f = some ys → ys.length = xs.length
  | [], ys, h => by
    rw [List.mapM_nil] at h
    cases h
    rfl
  | x :: xs, ys, h => by
    rw [List.mapM_cons] at h
    obtain ⟨y, h1, h⟩ := bind_some' h
    obtain ⟨zs, h2, h⟩ := bind_some' h
    cases h
    rw [List.length_cons, List.length_cons, mapM_len h2]
theorem mapM_mem {α β : Type} {f : α → Option β} {x : α} {y : β} : ∀ {xs : List α} {ys : List β}, xs.mapM f = some ys → x ∈ xs → f x = some y → y ∈ ys
  | z :: xs, ys, h, hx, e => by
    rw [List.mapM_cons] at h
    obtain ⟨y', h1, h⟩ := bind_some' h
    obtain ⟨zs, h2, h⟩ := bind_some' h
    cases h
    rcases List.mem_cons.mp hx with rfl | hx
    · rw [e] at h1
      cases h1
      exact List.mem_cons_self
    · exact List.mem_cons_of_mem _ (mapM_mem h2 hx e)
theorem zip_snd {α β : Type} : ∀ {xs : List α} {ys : List β}, ys.length = xs.length → (xs.zip ys).map (·.2) = ys
  | [], [], _ => rfl
  | _ :: _, [], h => by cases h
  | [], _ :: _, h => by cases h
  | x :: xs, y :: ys, h => by
    show y :: (xs.zip ys).map (·.2) = _
    rw [zip_snd (Nat.succ.inj h)]
theorem own_mem {x : Str} (h : locK scope x = true) (hx : (ixN? N x).isSome = true) : x ∈ ownOf N scope := by
  unfold locK at h
  unfold ownOf
  refine List.mem_filter.mpr ⟨?_, hx⟩
  split at h
  · rename_i q
    exact List.mem_filterMap.mpr ⟨_, PySem.mem_of_lookup q, rfl⟩
  · rename_i q
    exact List.mem_filterMap.mpr ⟨_, PySem.mem_of_lookup q, rfl⟩
  · cases h
theorem nm_ix (hm : (ownOf N scope).mapM (ixN? N) = some idx) {e : Expr} (h : nmOk N scope e = true) : ∀ j ∈ nmIx N e, j ∈ idx := by
  cases e with
  | Name x p =>
    obtain ⟨h1, h2⟩ := Bool.and_eq_true_iff.mp (show ((ixN? N x).isSome && locK scope x) = true from h)
    intro j hj
    have hj' : ixN? N x = some j := by simpa [nmIx] using hj
    exact mapM_mem hm (own_mem h2 h1) hj'
  | _ => cases h
theorem tg_ix (hm : (ownOf N scope).mapM (ixN? N) = some idx) {tg : Expr} (h : tgOk N scope tg = true) : ∀ j ∈ tgIx N tg, j ∈ idx := by
  cases tg with
  | Name x p => exact nm_ix hm (e := .Name x p) h
  | Tuple es a p =>
    intro j hj
    obtain ⟨e, he, hj⟩ := List.mem_flatMap.mp (show j ∈ es.flatMap (nmIx N) from hj)
    exact nm_ix hm (List.all_eq_true.mp (show es.all (nmOk N scope) = true from h) e he) j hj
  | _ => cases h
/-! ### a target leaves flat slots flat -/
theorem flat_store {x : Str} {d : D} {ρ ρ' : Ro} (h : store N sc x (.fz d) ρ = some ρ') (f : FlatAt ρ idx) : FlatAt ρ' idx := by
  obtain ⟨i, _, _, _, rfl⟩ := store_inv h
  intro j hj
  by_cases e : j = i
  · subst e
    rw [List.getElem?_set_self']
    have := f j hj
    cases q : ρ[j]? with
    | none => rw [q] at this; cases this
    | some s => rfl
  · rw [getSet_ne e]
    exact f j hj
theorem flat_names : ∀ {es : List Expr} {ds : List D} {ρ ρ' : Ro}, asgNames N sc es ds ρ = some ρ' → FlatAt ρ idx → FlatAt ρ' idx
  | [], [], _, _, h, f => by cases h; exact f
  | [], _ :: _, _, _, h, _ => by cases h
  | e :: es, [], _, _, h, _ => by cases e <;> cases h
  | e :: es, d :: ds, ρ, ρ', h, f => by
    cases e with
    | Name x p =>
      obtain ⟨ρ1, e1, e2⟩ := bind_some' (show ((store N sc x (.fz d) ρ).bind fun ρ1 => asgNames N sc es ds ρ1) = some ρ' from h)
      exact flat_names e2 (flat_store e1 f)
    | _ => cases h
theorem flat_asg {tg : Expr} {d : D} {ρ ρ' : Ro} (h : asgT N sc tg d ρ = some ρ') (f : FlatAt ρ idx) : FlatAt ρ' idx := by
  cases tg with
  | Name x p => exact flat_store h f
  | Tuple es j p =>
    cases d with
    | tup ds => exact flat_names (show asgNames N sc es ds ρ = some ρ' from h) f
    | _ => cases h
  | _ => cases h

/-! ### the tests -/
theorem test_ok {E : Ev} (S : Snd M N E) {ifs : List Expr} {σ : L2.St} {ρ ρ' : Ro} {G H : Hp} {b : Bool} {Q : Bool → Hp → Prop} (O : XOk M N scope k X W) (R : Rep X.K G H σ ρ) (h : testS E scope ifs ρ = .ok b ρ')
    (q : ∀ G' H', Go σ ρ G H σ ρ' G' H' → Evo ρ ρ' → Rep X.K G' H' σ ρ' → Q b H') : ∃ t, PTs X ifs t ∧ t σ H Q := by
  match ifs, h with
  | [], h =>
    cases h
    exact ⟨_, pts_nil, q G H Go.refl (Evo.refl _) R⟩
  | [c], h =>
    refine ⟨_, pts_one pt_wt, S.t O R ?_⟩
    rw [show E.t scope c ρ = .ok b ρ' from h]
    exact q
  | _ :: _ :: _, h => cases h
/-! ### the new list, from turn to turn -/
section
variable {K : PySem.W.Frag} {G H G' H' G1 H1 : Hp} {σ σ' : L2.St} {ρ ρ' : Ro} {D : Addr} {o : HO}
theorem go_upd (g : Go σ ρ G1 H1 σ' ρ' G' H') (hD : H1 D = none) : Go σ ρ G1 H1 σ' ρ' G' (upd H' D o) :=
  ⟨g.g, fun a u e n => by rw [upd_ne (ne_of_none e hD)]; exact g.keep a u e n, g.fr, g.own, g.pin, fun a e => g.there a (upd_none' e (g := g))⟩
where upd_none' {a : Addr} (e : upd H' D o a = none) (g : Go σ ρ G1 H1 σ' ρ' G' H') : H' a = none := upd_none e
theorem rep_upd (R : Rep K G' H' σ ρ) (hG : G' D = none) (hn : ∀ i, ¬ OwAt σ ρ i D) : Rep K G' (upd H' D o) σ ρ := by
  refine ⟨fun a u e => ?_, R.len, fun i s e => (R.sl i s e).later (Same.refl _) fun m a d es ex ⟨c1, xs, ds, c2, c3, c4⟩ => ⟨c1, xs, ds, c2, ?_, c4⟩, R.dj⟩
  · rw [upd_ne (ne_of_none e hG)]
    exact R.ex a u e
  · rw [upd_ne fun z => hn i ⟨m, d, by rw [← es]; exact e, by rw [← z]; exact ex⟩]
    exact c3
/-- the new list stays as it is meanwhile -/
structure Keep (K : PySem.W.Frag) (G H : Hp) (σ : L2.St) (ρ : Ro) (D : Addr) (vs : List V) (ds : List VE.D) : Prop where
  h : H D = some (.lst vs)
  g : G D = none
  n : ∀ i, ¬ OwAt σ ρ i D
  i : IsL K G vs ds
theorem Keep.go {vs : List V} {ds : List VE.D} (kp : Keep K G H σ ρ D vs ds) (g : Go σ ρ G H σ' ρ' G' H') : H' D = some (.lst vs) ∧ G' D = none ∧ IsL K G' vs ds := by
  have nm : ¬ Mo σ ρ D := fun m => let ⟨i, q⟩ := mo_ow m; kp.n i q
  exact ⟨g.keep D _ kp.h nm, g.fr D _ kp.h kp.g nm, kp.i.mono g.g⟩
end

section
/-- the readings of a block's parts, whatever the block's place -/
def gB (X : Cx) (scope : Scope) (tg : Expr) : TG := fun v σ H Q => ∀ s H0 C cl fp, ∃ g, PG (X.blk s H0 scope (compEnvC scope cl C X.env) fp) tg g ∧ g v σ H Q
def tB (X : Cx) (scope : Scope) (ifs : List Expr) : TT := fun σ H Q => ∀ s H0 C cl fp, ∃ t, PTs (X.blk s H0 scope (compEnvC scope cl C X.env) fp) ifs t ∧ t σ H Q
def eB (X : Cx) (scope : Scope) (elt : Expr) : TE := fun σ H Q => ∀ s H0 C cl fp, WE (X.blk s H0 scope (compEnvC scope cl C X.env) fp) elt σ H Q
variable {M : Mdl} {N : List Str} {E : Ev} {sc scope : Scope} {k : Nat} {X : Cx} {W : WX} {σ : L2.St} {ρ : Ro} {G H : Hp} {Q : VK} (S : Snd M N E)
include S
theorem comp_tlc {elt tg it : Expr} {ifs : List Expr} (O : XOk M N sc k X W) (R : Rep X.K G H σ ρ) (h : Post X.mg X.K W σ ρ G H (compS M N E sc elt tg it ifs scope ρ) (OutC X.K σ H Q)) :
    ∃ wi g tt te own, PI X tg it wi ∧ BlkOk X.N X.env.scope scope own ∧ (∀ s H C cl fp, PG (X.blk s H scope (compEnvC scope cl C X.env) fp) tg g) ∧ (∀ s H C cl fp, PTs (X.blk s H scope (compEnvC scope cl C X.env) fp) ifs tt) ∧
      (∀ s H C cl fp, PE (X.blk s H scope (compEnvC scope cl C X.env) fp) elt te) ∧ (∀ x, foldedSetIterable it X.env x = pure x) ∧ tLc wi g tt te (own.map (·.2)) σ H Q := by
  unfold compS at h
  split at h
  · exact h.elim
  · rename_i idx hm
    split at h
    · rename_i c
      simp only [Bool.and_eq_true, decide_eq_true_eq] at c
      obtain ⟨⟨⟨c1, c2⟩, c3⟩, c4⟩ := c
      have ok := blkOk_by c1
      have OB := fun s H C cl fp => blk_ok (scope := scope) O ok.kind s H C cl fp
      refine ⟨WI X tg it, gB X scope tg, tB X scope ifs,
        eB X scope elt, (ownOf N scope).zip idx, pi_wi, blk_free O ok, ?_, ?_, ?_, fold_set (by simpa using c3), ?_⟩
      · intro s H0 C cl fp
        exact ⟨fun pins s' σ' H' v u Q' I r hq => let ⟨g, hg, q⟩ := hq s H0 C cl fp; hg.run pins s' σ' H' v u Q' I r q⟩
      · intro s H0 C cl fp
        exact ⟨fun pins s' σ' H' Q' I hq => let ⟨t, ht, q⟩ := hq s H0 C cl fp; ht.run pins s' σ' H' Q' I q⟩
      · intro s H0 C cl fp
        exact ⟨fun pins s' σ' H' Q' I hq => pe_we.run pins s' σ' H' Q' I (hq s H0 C cl fp)⟩
      · rw [zip_snd (mapM_len hm)]
        refine snd_iter S O R (h.bind.imp fun w ρ1 G1 H1 _ g1 e1 R1 h1 hl J wk => ?_)
        split at h1
        · rename_i cf
          have Rl := lock_rep hl R1
          have f : FlatAt (lockAll w.2 ρ1) idx := fun i hi => List.all_eq_true.mp cf i hi
          split at h1
          · rename_i ds2 ρ2 eloop
            obtain ⟨gw, Rw⟩ := wipe_ok Rl f
            obtain ⟨Gp, Y, wlk, hGp, hY⟩ := wk
            intro Dl hD
            refine lc_it (g := gB X scope tg) (tt := tB X scope ifs) (te := eB X scope elt) (vs := idx) (σ := σ) (D := Dl) (Qd := fun H => Q (.ref Dl) H) wlk (fun i Hc => ∃ ρ' G' acc accV, Go (wipe σ idx) (wipeR idx (lockAll w.2 ρ1)) G1 H1 (wipe σ idx) ρ' G' Hc ∧ Evo (wipeR idx (lockAll w.2 ρ1)) ρ' ∧ Rep X.K G' Hc (wipe σ idx) ρ' ∧ (∀ i ∈ idx, i < ρ'.length → ρ'[i]? = some .un) ∧
              Keep X.K G' Hc (wipe σ idx) ρ' Dl accV acc ∧ loopC idx (asgT N scope tg) (testS E scope ifs) (E.e scope elt) (w.1.drop i) acc ρ' = .ok ds2 ρ2) ?_ ?_ ?_ ?_
            · exact ⟨_, G1, [], [], go_new hD, Evo.refl _, rep_new Rw hD, fun i hi hlt => wipeR_in hi (by rw [wipeR_len] at hlt; exact hlt), ⟨upd_same, Rl.gnone hD, fun i => new_un Rw hD i, .nil⟩, eloop⟩
            · exact fun i Hc _ ⟨ρ', G', acc, accV, g, ev, R', _, _, _⟩ => hGp _ _ _ _ (gw.trans g) R'
            · rintro i x Hc Hc' hi ⟨ρ', G', acc, accV, g, ev, R', hun, kp, el⟩ y
              obtain ⟨G2, d, e1, is, g2, R2⟩ := hY i Hc x Hc' y _ ρ' G' (gw.trans g) R'
              have e2 : w.1.drop i = d :: w.1.drop (i + 1) := by
                rw [List.getElem?_eq_some_iff] at e1
                obtain ⟨hh, e1⟩ := e1
                rw [← e1]
                exact List.drop_eq_getElem_cons hh
              rw [e2] at el
              simp only [loopC] at el
              cases ea : asgT N scope tg d ρ' with
              | none => rw [ea] at el; cases el
              | some ρ3 =>
                rw [ea] at el
                simp only at el
                intro s H0 C cl fp
                obtain ⟨gt, hg, hq⟩ := tg_ok (OB s H0 C cl fp) c2
                refine ⟨gt, hg, hq ea is R2 fun σ2 g3 R3 o => ?_⟩
                have o' : OutSame idx (wipe σ idx) σ2 ρ' ρ3 := ⟨o.1, o.2.1, fun j hj => o.2.2 j fun z => hj (tg_ix hm c2 j z)⟩
                have flen : σ.length = ρ'.length := by rw [← R'.len, wipe_length]
                have F0 : FlatAt ρ' idx := fun j hj => by
                  rcases Nat.lt_or_ge j ρ'.length with q | q
                  · rw [hun j hj q]; rfl
                  · have l3 := hun j hj
                    have := f j hj
                    have l4 : j ≥ (lockAll w.2 ρ1).length := by
                      have := ev.len
                      rw [wipeR_len] at this
                      omega
                    rw [List.getElem?_eq_none_iff.mpr l4] at this
                    cases this
                have F3 := flat_asg ea F0
                refine ⟨(turn_end o' (Evo.refl ρ3) hun F3 flen).1, ?_⟩
                obtain ⟨k1, k2, k3⟩ := kp.go g2
                have kp3 : Keep X.K G2 Hc' σ2 ρ3 Dl accV acc := ⟨k1, k2, fun i ow => by
                  obtain ⟨m, d', q1, q2⟩ := ow
                  by_cases hi : i ∈ idx
                  · have := (F3.get hi q1).2
                    cases this
                  · obtain ⟨z1, z2⟩ := o'.2.2 i hi
                    exact kp.n i ⟨m, d', by rw [← z2]; exact q1, by rw [← z1]; exact q2⟩, k3⟩
                -- a turn's end
                have fin : ∀ {ρ4 : Ro} {G4 H4 : Hp}, Go σ2 ρ3 G2 Hc' σ2 ρ4 G4 H4 → Evo ρ3 ρ4 → Rep X.K G4 H4 σ2 ρ4 → Go (wipe σ idx) (wipeR idx (lockAll w.2 ρ1)) G1 H1 (wipe σ idx) (wipeR idx ρ4) G4 H4 ∧ Evo (wipeR idx (lockAll w.2 ρ1)) (wipeR idx ρ4) ∧ Rep X.K G4 H4 (wipe σ idx) (wipeR idx ρ4) ∧ (∀ i ∈ idx, i < (wipeR idx ρ4).length → (wipeR idx ρ4)[i]? = some .un) ∧ (∀ i, ¬ OwAt (wipe σ idx) (wipeR idx ρ4) i Dl) := fun {ρ4 G4 H4} g4 e4 R4 => by
                  obtain ⟨t1, t2, t3⟩ := turn_end o' e4 hun F3 flen
                  obtain ⟨gw4, Rw4⟩ := wipe_ok R4 t3
                  rw [t1] at gw4 Rw4
                  exact ⟨(((g.trans g2).trans g3).trans g4).trans gw4, ev.trans t2, Rw4, fun i hi hlt => wipeR_in hi (by rw [wipeR_len] at hlt; exact hlt), fun i ow => kp.n i (ow.evo t2)⟩
                intro s H0 C cl fp
                cases et : testS E scope ifs ρ3 with
                | stuck => rw [et] at el; cases el
                | exc c' fs' ρ4 => rw [et] at el; cases el
                | ok b ρ4 =>
                  rw [et] at el
                  refine test_ok S (OB s H0 C cl fp) R3 et fun G4 H4 g4 e4 R4 => ?_
                  obtain ⟨k4, k5, k6⟩ := kp3.go g4
                  cases b with
                  | false =>
                    simp only [Bool.false_eq_true, if_false] at el ⊢
                    obtain ⟨f1, f2, f3, f4, f5⟩ := fin g4 e4 R4
                    exact ⟨_, G4, acc, accV, f1, f2, f3, f4, ⟨k4, k5, f5, k6⟩, el⟩
                  | true =>
                    simp only [if_true] at el ⊢
                    intro s H0 C cl fp
                    cases ee : E.e scope elt ρ4 with
                    | stuck => rw [ee] at el; cases el
                    | exc c' fs' ρ5 => rw [ee] at el; cases el
                    | ok v ρ5 =>
                      rw [ee] at el
                      simp only at el
                      cases ew : whole v ρ5 with
                      | stuck => rw [ew] at el; cases el
                      | exc c' fs' ρ6 => rw [ew] at el; cases el
                      | ok d6 ρ6 =>
                        rw [ew] at el
                        simp only at el
                        split at el
                        · rename_i sz
                          refine S.e (OB s H0 C cl fp) R4 ?_
                          rw [ee]
                          intro G5 H5 g5 e5 R5 vv ov
                          obtain ⟨G6, g6, e6, R6, i6⟩ := whole_of R5 g5 e5 ov ew
                          have kp4 : Keep X.K G4 H4 σ2 ρ4 Dl accV acc := ⟨k4, k5, fun i ow => kp3.n i (ow.evo e4), k6⟩
                          obtain ⟨k7, k8, k9⟩ := kp4.go g6
                          obtain ⟨f1, f2, f3, f4, f5⟩ := fin (g4.trans g6) (e4.trans e6) R6
                          have hlen : accV.length < sizeLine := by
                            rw [k9.length]
                            exact of_decide_eq_true sz
                          exact ⟨accV, k7, hlen, _, G6, acc ++ [d6], accV ++ [vv], go_upd f1 hD, f2, rep_upd f3 k8 f5, f4, ⟨upd_same, k8, f5, k9.append (.one i6)⟩, el⟩
                        · cases el
            · rintro Hc ⟨ρ', G', acc, accV, g, ev, R', hun, kp, el⟩
              rw [List.drop_length] at el
              cases el
              obtain ⟨u1, u2, u3⟩ := unwipe_ok Rl f g R' ev
              obtain ⟨v1, v2⟩ := unlock_ok hl u1 u2
              have v3 := unlock_evo hl u1 u2 u3
              refine h1 G' Hc v1 v3 v2 (.ref Dl) ⟨⟨Dl, rfl, ⟨kp.g, accV, _, rfl, kp.h, kp.i⟩, fun i o => ?_⟩, fun d a _ e => ?_⟩
              · exact new_un Rl hD i ((unlock_ow o).evo u3)
              · cases e
                exact g1.there Dl hD
          · exact h1.elim
        · exact h1.elim
    · exact h.elim
end
end
end VE
end

section
set_option Elab.async false
set_option linter.all false
set_option maxRecDepth 100000
set_option maxHeartbeats 1000000
/-! VE12: statements. -/
namespace VE
open PySem PySem.Spec L2

section
variable {M : Mdl} {N : List Str} {E : Ev} {sc : Scope} {k : Nat} {X : Cx} {W : WX} {σ : L2.St} {ρ : Ro} {G H : Hp} (S : Snd M N E)
theorem swaps_false {e : Expr} {t : Option Expr} {l : Nat} {env : Env} (h : isComp e = false) : swapsWith e t l env = pure false := by
  cases e <;> first | rfl | cases h
theorem sole_false {e t : Expr} {l : Nat} {env : Env} (h : isComp e = false) : swapsWithSole [t] e l env = pure false := by
  unfold swapsWithSole
  exact swaps_false h
/-- what putB stores -/
theorem putB_ok {ρ1 : Ro} {G1 H1 : Hp} {v : V} {b : Bv} {x : Str} {i : Nat} {D' : Ends} (R1 : Rep X.K G1 H1 σ ρ1) (g1 : Go σ ρ G H σ ρ1 G1 H1) (e1 : Evo ρ ρ1) (ov : Out X.K H G1 H1 σ ρ1 v b) (hi : ixN? N x = some i)
    (h : PostF X.mg X.K W σ ρ G H (putB N sc x b ρ1) D') : D'.nx (σ.set i (some v)) H1 := by
  cases b with
  | va d f =>
    cases f with
    | true =>
      cases es : store N sc x (.ow .own d) ρ1 with
      | none => simp only [putB, es, Rf.of] at h; exact h.elim
      | some ρ2 =>
        simp only [putB, es, Rf.of] at h
        obtain ⟨i', z1, _, z3, rfl⟩ := store_inv es
        rw [hi] at z1
        cases z1
        obtain ⟨dn, nw⟩ := ov
        obtain ⟨q1, q2⟩ := put_ok (v := v) (s := .ow .own d) (H0 := H) R1 z3 dn
        exact h _ G1 H1 (q2 (fun a ea _ => nw d a rfl ea) g1) q1
    | false =>
      cases es : store N sc x (.fz d) ρ1 with
      | none => simp only [putB, es, Rf.of] at h; exact h.elim
      | some ρ2 =>
        simp only [putB, es, Rf.of] at h
        obtain ⟨i', z1, _, z3, rfl⟩ := store_inv es
        rw [hi] at z1
        cases z1
        obtain ⟨q1, q2⟩ := put_fz (v := v) R1 z3 ov.1
        exact h _ G1 H1 (g1.trans q1) q2
  | «at» j =>
    simp only [putB] at h
    cases ew : whole (.at j) ρ1 with
    | stuck => rw [ew] at h; exact h.elim
    | exc c fs ρ2 => exact (whole_noexc ew).elim
    | ok d ρ2 =>
      rw [ew] at h
      simp only [Rs.toF] at h
      obtain ⟨G2, g2, e2, R2, i2⟩ := whole_of R1 g1 e1 ov ew
      cases es : store N sc x (.fz d) ρ2 with
      | none => rw [es] at h; exact h.elim
      | some ρ3 =>
        rw [es] at h
        obtain ⟨i', z1, _, z3, rfl⟩ := store_inv es
        rw [hi] at z1
        cases z1
        obtain ⟨q1, q2⟩ := put_fz (v := v) R2 z3 i2
        exact h _ G2 H1 (g2.trans q1) q2
include S
/-- x = e -/
theorem snd_set {x : Str} {px p : Pos} {v : Expr} {D' : Ends} (O : XOk M N sc k X W) (R : Rep X.K G H σ ρ) (hi : (ixN? N x).isSome = true) (hl : locK sc x = true) (hc : isComp v = false)
    (h : PostF X.mg X.K W σ ρ G H ((E.e sc v ρ).toF fun b ρ1 => putB N sc x b ρ1) D') : WS X (.Assign [.Name x px] v p) D' σ H := by
  obtain ⟨i, hi⟩ := Option.isSome_iff_exists.mp hi
  obtain ⟨l1, l2⟩ := O.loc hl
  refine WS.mk (ps_set (by rw [O.nm]; exact O.nd) (by rw [O.nm]; exact ixN_get hi) l1 pe_we (swaps_false hc) l2) ?_
  refine S.e O R (h.bind.imp fun b ρ1 G1 H1 eq g1 e1 R1 _ vv ov => ?_)
  rw [eq] at h
  exact putB_ok R1 g1 e1 ov hi h
/-- x = [..] -/
theorem snd_setLc {x : Str} {px p pc : Pos} {elt tg it : Expr} {ifs : List Expr} {scope : Scope} {D' : Ends} (O : XOk M N sc k X W) (R : Rep X.K G H σ ρ) (hi : (ixN? N x).isSome = true) (hl : locK sc x = true)
    (h : PostF X.mg X.K W σ ρ G H ((compS M N E sc elt tg it ifs scope ρ).toF fun b ρ1 => putB N sc x b ρ1) D') : WS X (.Assign [.Name x px] (.ListComp elt [⟨tg, it, ifs, 0⟩] scope pc) p) D' σ H := by
  obtain ⟨i, hi⟩ := Option.isSome_iff_exists.mp hi
  obtain ⟨l1, l2⟩ := O.loc hl
  have q : Post X.mg X.K W σ ρ G H (compS M N E sc elt tg it ifs scope ρ) (OutC X.K σ H fun v H1 => D'.nx (σ.set i (some v)) H1) := h.bind.imp fun b ρ1 G1 H1 eq g1 e1 R1 _ vv ov => by
    rw [eq] at h
    exact putB_ok R1 g1 e1 ov hi h
  obtain ⟨wi, g, tt, te, own, h1, h2, h3, h4, h5, h6, h7⟩ := comp_tlc S O R q
  have nd : X.N.Nodup := by rw [O.nm]; exact O.nd
  have nx : X.N[i]? = some x := by rw [O.nm]; exact ixN_get hi
  by_cases hy : X.env.scope.names.lookup x = some .local ∧ (px.line == pc.line) = true ∧ (scope.names.any fun (n, k) => n == x && (k == .local || k == .cell)) = false
  · exact WS.mk (ps_setLc O.calm nd nx hy.1 (sw_true O.kind hy.1 hy.2.1 hy.2.2) h1 h2 h3 h4 h5 h6) h7
  · refine WS.mk (ps_set nd nx l1 (pe_lc O.calm nd h1 h2 h3 h4 h5 h6) ?_ l2) h7
    have hb : X.env.blockKind = .function := by unfold Env.blockKind; rw [O.kind]; rfl
    have : (X.env.blockKind == .function && X.env.kindOf x == some .local && px.line == pc.line && !(scope.names.any fun (n, k) => n == x && (k == .local || k == .cell))) = false := by
      rw [hb]
      cases q1 : (X.env.kindOf x == some NameKind.local) with
      | false => rfl
      | true =>
        cases q2 : (px.line == pc.line) with
        | false => rfl
        | true =>
          cases q3 : (scope.names.any fun (n, k) => n == x && (k == .local || k == .cell)) with
          | true => rfl
          | false => exact absurd ⟨beq_iff_eq.mp q1, q2, q3⟩ hy
    unfold swapsWith
    show (pure (X.env.blockKind == .function && X.env.kindOf x == some .local && px.line == pc.line && !(scope.names.any fun (n, k) => n == x && (k == .local || k == .cell))) : Sem Bool) = pure false
    rw [this]
/-- a, b = e -/
theorem snd_setT {es : List Expr} {j : Nat} {pt p : Pos} {v : Expr} {D' : Ends} (O : XOk M N sc k X W) (R : Rep X.K G H σ ρ) (hn : es.all (nmOk N sc) = true) (ht : isTupE v = false) (hc : isComp v = false)
    (h : PostF X.mg X.K W σ ρ G H ((E.e sc v ρ).toF fun b ρ1 => (whole b ρ1).toF fun d ρ2 => Rf.of (asgT N sc (.Tuple es j pt) d ρ2)) D') : WS X (.Assign [.Tuple es j pt] v p) D' σ H := by
  obtain ⟨g, hg, hq⟩ := tg_ok O (tg := .Tuple es j pt) hn
  refine WS.mk (ps_asg pe_we hg ?_ ?_ rfl) ?_
  · exact sole_false hc
  · cases v <;> first | rfl | cases ht
  · refine S.e O R (h.bindW.imp fun b ρ1 G1 H1 _ g1 e1 R1 h1 vv ov => ?_)
    obtain ⟨d, ρ2, G2, g2, e2, R2, i2, h2⟩ := h1 vv ov
    cases ea : asgT N sc (.Tuple es j pt) d ρ2 with
    | none => rw [ea] at h2; exact h2.elim
    | some ρ3 =>
      rw [ea] at h2
      exact hq ea i2 R2 fun σ' g3 R3 _ => h2 σ' G2 H1 g3 R3
/-- o[i] = e -/
theorem snd_setSub {o ix v : Expr} {ps p : Pos} {D' : Ends} (O : XOk M N sc k X W) (R : Rep X.K G H σ ρ) (hc : isComp v = false) (hx : isSlice ix = false)
    (h : PostF X.mg X.K W σ ρ G H ((E.e sc v ρ).toF fun b ρ1 => (whole b ρ1).toF fun d ρ2 => (E.e sc o ρ2).toF fun t ρ3 => (match t with
      | .at i => (E.e sc ix ρ3).toF fun j ρ4 => (match deref ρ4 j, ρ4[i]? with
        | some (.int k), some (.ow md (.lst xs)) => (match ixN xs.length k with
          | some n => if md ≠ .lck then .next (ρ4.set i (.ow md (.lst (xs.set n d)))) else .stuck
          | none => .stuck)
        | _, _ => .stuck)
      | _ => .stuck)) D') : WS X (.Assign [.Subscript o ix ps] v p) D' σ H := by
  refine WS.mk (ps_asg pe_we (pg_sub pe_we pe_we set_list ?_) (sole_false hc) ?_ rfl) ?_
  · intro w
    cases ix <;> first | rfl | cases hx
  · cases v <;> rfl
  · refine S.e O R (h.bindW.imp fun b ρ1 G1 H1 _ g1 e1 R1 h1 vv ov => ?_)
    obtain ⟨d, ρ2, G2, g2, e2, R2, i2, h2⟩ := h1 vv ov
    refine S.e O R2 (h2.bind.imp fun t ρ3 G3 H3 _ g3 e3 R3 h3 vt ot => ?_)
    cases t with
    | va _ _ => exact h3.elim
    | «at» i =>
      have hi : σ[i]? = some (some vt) := ot.1
      have h3' : PostF X.mg X.K W σ ρ3 G3 H3 ((E.e sc ix ρ3).toF fun j ρ4 => (match deref ρ4 j, ρ4[i]? with
        | some (.int k), some (.ow md (.lst xs)) => (match ixN xs.length k with
          | some n => if md ≠ .lck then .next (ρ4.set i (.ow md (.lst (xs.set n d)))) else .stuck
          | none => .stuck)
        | _, _ => .stuck)) D' := h3
      refine S.e O R3 (h3'.bind.imp fun jb ρ4 G4 H4 _ g4 e4 R4 h4 vj oj => ?_)
      split at h4
      · rename_i kk md xs ej e
        split at h4
        · rename_i n en
          split at h4
          · rename_i hm
            obtain ⟨a', ea, d1, us, ds, d2, d3, d4⟩ := R4.sl i _ e
            rw [hi] at ea
            cases ea
            cases d2
            obtain ⟨go, ev, R5⟩ := mut_ok R4 e hm hi (d4.set ((i2.mono g3.g).mono g4.g) n)
            exact ⟨a', us, kk, n, rfl, (oj.1.deref R4 ej).int, d3, by rw [d4.length]; exact en, h4 σ G4 _ go R5⟩
          · exact h4.elim
        · exact h4.elim
      · exact h4.elim
/-- x += e -/
theorem snd_aug {x : Str} {px p : Pos} {op : Operator} {v : Expr} {D' : Ends} (O : XOk M N sc k X W) (R : Rep X.K G H σ ρ) (h : PostF X.mg X.K W σ ρ G H (stepS M N E sc (.AugAssign (.Name x px) op v p) ρ) D') :
    WS X (.AugAssign (.Name x px) op v p) D' σ H := by
  simp only [stepS] at h
  split at h
  case isFalse => exact h.elim
  rename_i hla
  obtain ⟨hl, has⟩ := Bool.and_eq_true_iff.mp hla
  split at h
  · exact h.elim
  rename_i i hi
  obtain ⟨l1, l2⟩ := O.loc hl
  have nd : X.N.Nodup := by rw [O.nm]; exact O.nd
  have nx : X.N[i]? = some x := by rw [O.nm]; exact ixN_get hi
  split at h
  case h_2 => exact h.elim
  rename_i a ea
  obtain ⟨va, z1, z2⟩ := R.sl i _ ea
  cases z2
  have fin : ∀ {ρ1 : Ro} {G1 H1 : Hp} {z : Int}, Rep X.K G1 H1 σ ρ1 → PostF X.mg X.K W σ ρ1 G1 H1 (Rf.of (store N sc x (.fz (.int z)) ρ1)) D' → D'.nx (σ.set i (some (.int z))) H1 := fun {ρ1 G1 H1 z} R1 h => by
    cases es : store N sc x (.fz (.int z)) ρ1 with
    | none => rw [es] at h; exact h.elim
    | some ρ2 =>
      rw [es] at h
      obtain ⟨i', y1, _, y3, rfl⟩ := store_inv es
      rw [hi] at y1
      cases y1
      obtain ⟨q1, q2⟩ := put_fz (v := .int z) R1 y3 (.int z)
      exact h _ G1 H1 q1 q2
  cases op with
  | Add =>
    refine WS.mk (ps_aug nd nx l1 pe_we ip_add l2) ⟨_, z1, ?_⟩
    refine S.e O R (h.bind.imp fun b ρ1 G1 H1 _ g1 e1 R1 h1 vv ov => ?_)
    split at h1
    · rename_i kk ek
      exact ⟨a, kk, rfl, (ov.1.deref R1 ek).int, fin R1 h1⟩
    · exact h1.elim
  | Sub =>
    refine WS.mk (ps_aug nd nx l1 pe_we ip_sub l2) ⟨_, z1, ?_⟩
    refine S.e O R (h.bind.imp fun b ρ1 G1 H1 _ g1 e1 R1 h1 vv ov => ?_)
    split at h1
    · rename_i kk ek
      exact ⟨a, kk, rfl, (ov.1.deref R1 ek).int, fin R1 h1⟩
    · exact h1.elim
  | _ => cases has
/-- return e -/
theorem snd_ret {e : Expr} {p : Pos} {D' : Ends} (O : XOk M N sc k X W) (R : Rep X.K G H σ ρ) (h : PostF X.mg X.K W σ ρ G H ((E.e sc e ρ).toF fun b ρ1 => .ret b ρ1) D') : WS X (.Return (some e) p) D' σ H := by
  refine WS.mk (ps_ret pe_we) ?_
  refine S.e O R (h.bind.imp fun b ρ1 G1 H1 eq g1 e1 R1 _ vv ov => ?_)
  rw [eq] at h
  exact h vv σ G1 H1 g1 R1 ov.1 ov.2
/-- an expression as a statement -/
theorem snd_drop {e : Expr} {p : Pos} {D' : Ends} (O : XOk M N sc k X W) (R : Rep X.K G H σ ρ) (hc : isComp e = false) (h : PostF X.mg X.K W σ ρ G H ((E.e sc e ρ).toF fun _ ρ1 => .next ρ1) D') : WS X (.Expr e p) D' σ H := by
  refine WS.mk (ps_expr pe_we (swaps_false hc)) ?_
  refine S.e O R (h.bind.imp fun b ρ1 G1 H1 _ g1 e1 R1 h1 vv ov => ?_)
  exact h1 σ G1 H1 Go.refl R1
theorem snd_if {c : Expr} {a b : List Stmt} {p : Pos} {D' : Ends} (O : XOk M N sc k X W) (Fm : Frm X) (R : Rep X.K G H σ ρ) (h : PostF X.mg X.K W σ ρ G H ((E.t sc c ρ).toF fun kk ρ1 => if kk then E.ss sc a ρ1 else E.ss sc b ρ1) D') : WS X (.If c a b p) D' σ H := by
  refine WS.mk (ps_if pt_wt pss_wss pss_wss) ?_
  refine S.t O R (h.bind.imp fun kk ρ1 G1 H1 _ g1 e1 R1 h1 => ?_)
  cases kk with
  | true =>
    rw [if_pos rfl] at h1 ⊢
    exact S.ss O Fm R1 h1
  | false =>
    rw [if_neg Bool.false_ne_true] at h1 ⊢
    exact S.ss O Fm R1 h1
theorem snd_ss {ss : List Stmt} {D' : Ends} (O : XOk M N sc k X W) (Fm : Frm X) (R : Rep X.K G H σ ρ) (h : PostF X.mg X.K W σ ρ G H (stepSs E sc ss ρ) D') : WSs X ss D' σ H := by
  cases ss with
  | nil => exact WSs.mk pss_nil (h σ G H Go.refl R)
  | cons s r =>
    refine WSs.mk (pss_cons ps_ws pss_wss) ?_
    refine S.s O Fm R ?_
    simp only [stepSs] at h
    cases q : E.s sc s ρ with
    | next ρ1 =>
      rw [q] at h
      exact fun σ1 G1 H1 g1 R1 => S.ss O Fm R1 (PostF.later (r := E.ss sc r ρ1) h g1)
    | stuck => rw [q] at h; exact h
    | brk ρ1 => rw [q] at h; exact h
    | cnt ρ1 => rw [q] at h; exact h
    | ret b ρ1 => rw [q] at h; exact h
    | exc c fs ρ1 => rw [q] at h; exact h
end
end VE
end

section
set_option Elab.async false
set_option linter.all false
set_option maxRecDepth 100000
set_option maxHeartbeats 1000000
/-! VE13: an expression, in all. -/
namespace VE
open PySem PySem.Spec L2

section
variable {M : Mdl} {N : List Str} {E : Ev} {sc : Scope} {k : Nat} {X : Cx} {W : WX} {σ : L2.St} {ρ : Ro} {G H : Hp} {Q : VK} (S : Snd M N E)
include S
theorem snd_lc {elt tg it : Expr} {ifs : List Expr} {scope : Scope} {p : Pos} (O : XOk M N sc k X W) (R : Rep X.K G H σ ρ) (h : Post X.mg X.K W σ ρ G H (compS M N E sc elt tg it ifs scope ρ) (OutC X.K σ H Q)) :
    WE X (.ListComp elt [⟨tg, it, ifs, 0⟩] scope p) σ H Q := by
  obtain ⟨wi, g, tt, te, own, h1, h2, h3, h4, h5, h6, h7⟩ := comp_tlc S O R h
  exact WE.mk (pe_lc O.calm (by rw [O.nm]; exact O.nd) h1 h2 h3 h4 h5 h6) h7
theorem snd_callS {f : Str} {a : Expr} {r : List Expr} {p p2 : Pos} (O : XOk M N sc k X W) (R : Rep X.K G H σ ρ) (h : Post X.mg X.K W σ ρ G H (callS M E sc f (a :: r) ρ) (OutC X.K σ H Q)) : WE X (.Call (.Name f p) (a :: r) [] p2) σ H Q := by
  unfold callS at h
  split at h
  case isFalse => exact h.elim
  rename_i c
  obtain ⟨c1, c2⟩ := Bool.and_eq_true_iff.mp c
  split at h
  · rename_i hf
    split at h
    · exact h.elim
    · rename_i ds ed
      exact snd_own S O R c1 c2 hf ed h
  · rename_i id hf
    split at h
    · rename_i e
      subst e
      exact snd_gcd S O R c1 c2 hf h
    · exact h.elim
  · rename_i hf
    split at h
    · rename_i e
      subst e
      split at h
      · rename_i a' c' ee
        cases ee
        split at h
        · rename_i xs hc
          split at h
          · rename_i c3
            simp only [Bool.and_eq_true, decide_eq_true_eq] at c3
            obtain ⟨⟨⟨k1, k2⟩, k3⟩, k4⟩ := c3
            exact snd_isi S O R c1 ⟨k3, k4⟩ hf hc k2 k1 h
          · exact h.elim
        · exact h.elim
      · exact h.elim
    · split at h
      · exact h.elim
      · rename_i b hb
        exact snd_bi S O R c1 c2 hf hb h
  · exact h.elim
theorem snd_e {e : Expr} (O : XOk M N sc k X W) (R : Rep X.K G H σ ρ) (h : Post X.mg X.K W σ ρ G H (stepE M N E sc e ρ) (OutC X.K σ H Q)) : WE X e σ H Q := by
  cases e with
  | Name x p => exact snd_name O R h
  | Constant c j p => exact snd_const R h
  | BinOp a op b p => exact snd_bin S O R h
  | UnaryOp op a p => exact snd_un S O R h
  | BoolOp op vs p => exact snd_bool S O R h
  | IfExp c a b p => exact snd_ifx S O R h
  | Compare a ops bs p =>
    match ops, bs, h with
    | [op], [b], h => exact snd_cmp1 S O R h
    | [op, op'], [b, c], h => exact snd_cmp2 S O R h
    | [], _, h => exact (show False from h).elim
    | [_], [], h => exact (show False from h).elim
    | [_], _ :: _ :: _, h => exact (show False from h).elim
    | [_, _], [], h => exact (show False from h).elim
    | [_, _], [_], h => exact (show False from h).elim
    | [_, _], _ :: _ :: _ :: _, h => exact (show False from h).elim
    | _ :: _ :: _ :: _, _, h => exact (show False from h).elim
  | Tuple es j p => exact snd_tup S O R h
  | List es p => exact snd_lst S O R h
  | Subscript a s p =>
    cases s with
    | Slice lo hi st p2 =>
      cases st with
      | none => exact snd_cut S O R h
      | some _ => exact (show False from h).elim
    | _ => exact snd_ix S rfl O R h
  | FormattedValue v c sp p =>
    cases sp with
    | some _ => exact (show False from h).elim
    | none =>
      simp only [stepE] at h
      split at h
      · rename_i e
        subst e
        exact snd_fmt S O R h
      · exact h.elim
  | JoinedStr vs p =>
    match vs, h with
    | a :: b :: r, h => exact snd_joined S O R h
    | [], h => exact (show False from h).elim
    | [_], h => exact (show False from h).elim
  | ListComp elt gs scope p =>
    cases gs with
    | nil => exact (show False from h).elim
    | cons g r =>
      obtain ⟨tg, it, ifs, aw⟩ := g
      cases aw with
      | negSucc _ => cases r <;> exact (show False from h).elim
      | ofNat n =>
        cases n with
        | succ _ => cases r <;> exact (show False from h).elim
        | zero =>
          cases r with
          | cons _ _ => exact (show False from h).elim
          | nil => exact snd_lc S O R h
  | Call fn args kws p =>
    cases fn with
    | Name f pf =>
      match kws, args, h with
      | [], [], h => exact (show False from h).elim
      | [], a :: r, h => exact snd_callS S O R h
      | _ :: _, [], h => exact (show False from h).elim
      | kw :: kws, a :: r, h => exact snd_kw S O R h
    | Attribute o m ap =>
      cases o with
      | Name x px =>
        match kws, args, h with
        | [], [a], h =>
          simp only [stepE] at h
          split at h
          · rename_i hm
            split at h
            · rename_i c
              obtain ⟨c1, c2⟩ := Bool.and_eq_true_iff.mp c
              exact snd_append S O R hm c1 c2 h
            · exact h.elim
          · exact h.elim
        | [], [], h => exact (show False from h).elim
        | [], _ :: _ :: _, h => exact (show False from h).elim
        | _ :: _, _, h => exact (show False from h).elim
      | _ => exact (show False from h).elim
    | _ => exact (show False from h).elim
  | _ => exact (show False from h).elim
end
end VE
end

section
set_option Elab.async false
set_option linter.all false
set_option maxRecDepth 100000
set_option maxHeartbeats 1000000
/-! VE14: raise; the evaluator is sound. -/
namespace VE
open PySem PySem.Spec L2

section
variable {M : Mdl} {N : List Str} {E : Ev} {sc : Scope} {k : Nat} {X : Cx} {W : WX} {σ : L2.St} {ρ : Ro} {G H : Hp} (S : Snd M N E)
include S
theorem snd_raise {x : Str} {px pc p : Pos} {a : Expr} {r : List Expr} {D' : Ends} (O : XOk M N sc k X W) (R : Rep X.K G H σ ρ) (hg : gloK sc x = true) (hx : M.glob x = .ex) (hs : (a :: r).all notStar = true)
    (h : PostF X.mg X.K W σ ρ G H ((E.es sc (a :: r) ρ).toF fun ds ρ1 => (match M.mkx x ds with
        | some fs => .exc x fs ρ1
        | none => .stuck)) D') : WS X (.Raise (some (.Call (.Name x px) (a :: r) [] pc)) none p) D' σ H := by
  obtain ⟨C, hm, fI, fd, ps, sp, j, T, iC, tI, F, hb, hj, hmk⟩ := O.md.ex x hx
  have hs' : notStar a = true ∧ r.all notStar = true := by simpa using hs
  refine WS.mk (ps_raise O.calm O.tk (pmk_oex T iC tI F (O.room.mono hj) hb .nil (passes_call O.tk fun _ _ _ _ z => z.elim) (O.glo hg) hm pa_wa (nameOk_dbg (glo_name hg)) (star_cons hs'.1) (star_none hs'.2))) ?_
  refine S.es O R (h.bind.imp fun ds ρ1 G1 H1 _ g1 e1 R1 h1 vs il => ?_)
  split at h1
  · rename_i fs em
    obtain ⟨hl, hsp⟩ := hmk ds fs em
    refine ⟨by rw [il.length]; exact hl, fun e he => ?_⟩
    rw [List.append_nil]
    have il2 : IsL X.K G1 vs ds := il
    refine hsp G1 (upd H1 e (exo e C none)) vs e _ _ il2 upd_same fun d fsV H2 hd hde hf q1 q2 q3 => ⟨rfl, d, fsV, q1, q2, ?_, ?_⟩
    · rw [upd_ne hde] at hd
      exact hd
    · have hd1 : H1 d = none := by
        rw [upd_ne hde] at hd
        exact hd
      have eH : upd (del H2 e) d (.xd fsV) = upd H1 d (.xd fsV) := by
        funext b
        by_cases hb1 : b = d
        · subst hb1
          rw [upd_same, upd_same]
        · rw [upd_ne hb1, upd_ne hb1]
          by_cases hb2 : b = e
          · subst hb2
            rw [del_same, he]
          · rw [del_ne hb2, q3 b hb2 hb1, upd_ne hb2]
      rw [eH]
      exact h1 _ _ σ (upd G1 d (.xd fsV)) _ (go_fix R1 hd1) (rep_fix R1 hd1) ⟨C, d, fsV, hm, rfl, rfl, upd_same, fsL_mono (same_upd (R1.gnone hd1)) hf⟩
  · exact h1.elim
where fsL_mono {K : PySem.W.Frag} {G G' : Hp} (g : Same G G') : ∀ {vs : List (Str × V)} {ds : List (Str × D)}, FsL K G vs ds → FsL K G' vs ds
  | _, _, .nil => .nil
  | _, _, .cons h r => .cons (h.mono g) (fsL_mono g r)
omit S in
theorem swapped2 {x y : Str} {px py pt pt2 : Pos} {kt k2 : Nat} {a b : Expr} {env : Env} (hk : env.blockKind = .function) (hx : env.kindOf x = some .local) (hy : env.kindOf y = some .local) (hl : (py.line == px.line) = true) (ha : notStar a = true) (hb : notStar b = true) (hxy : x ≠ y)
    (h1 : [a, b].all (foldedForSure 8) = false) (h2 : [a, b].all (constantsAlone 8) = false) : swappedStores [.Tuple [.Name x px, .Name y py] kt pt] (.Tuple [a, b] k2 pt2) env = pure (some [x, y]) := by
  have e1 : (env.kindOf x == some NameKind.local) = true := by rw [hx]; rfl
  have e2 : (env.kindOf y == some NameKind.local) = true := by rw [hy]; rfl
  have e3 : ((([Expr.Name x px, .Name y py] : List Expr).head?.map (·.pos.line)).getD 0) = px.line := rfl
  have hu : ([x, y] : List Str).eraseDups.length = 2 := by
    have : (y == x) = false := by simpa using Ne.symm hxy
    simp [List.eraseDups_cons, this]
  unfold swappedStores
  simp only [List.filterMap_cons, List.filterMap_nil, e1, e2, e3, hl, Bool.and_self, beq_self_eq_true, if_true, hu]
  rw [if_neg (by rw [hk]; exact Bool.false_ne_true)]
  rw [if_neg (by cases a <;> cases b <;> first | exact Bool.false_ne_true | (cases ha; done) | (cases hb; done))]
  rw [if_neg (show ¬ ((([x, y] : List Str).length != ([Expr.Name x px, Expr.Name y py] : List Expr).length || (2 != ([x, y] : List Str).length)) = true) from Bool.false_ne_true), if_neg (by rw [h1]; exact Bool.false_ne_true), if_neg (by rw [h2]; exact Bool.false_ne_true)]
theorem snd_par {x y : Str} {px py pt pt2 p : Pos} {kt k2 : Nat} {a b : Expr} {D' : Ends} (O : XOk M N sc k X W) (R : Rep X.K G H σ ρ) (hc : parC N sc x px y py a b = true)
    (h : PostF X.mg X.K W σ ρ G H ((E.es sc [a, b] ρ).toF fun ds ρ1 => (match ds with
      | [d, e] => Rf.of ((store N sc x (.fz d) ρ1).bind fun ρ2 => store N sc y (.fz e) ρ2)
      | _ => .stuck)) D') : WS X (.Assign [.Tuple [.Name x px, .Name y py] kt pt] (.Tuple [a, b] k2 pt2) p) D' σ H := by
  unfold parC at hc
  simp only [Bool.and_eq_true, decide_eq_true_eq, Bool.not_eq_true'] at hc
  obtain ⟨⟨⟨⟨⟨⟨⟨⟨⟨c1, c2⟩, c3⟩, c4⟩, c5⟩, c6⟩, c7⟩, c8⟩, c9⟩, c10⟩ := hc
  have loc : ∀ {z : Str}, (match sc.names.lookup z with | some .local => true | _ => false) = true → X.env.scope.names.lookup z = some .local := fun {z} q => by
    split at q
    · rename_i e
      rcases O.rel z with r | ⟨r, _⟩
      · rw [r, e]
      · rw [e] at r; cases r
    · cases q
  obtain ⟨i, hi⟩ := Option.isSome_iff_exists.mp c4
  obtain ⟨j, hj⟩ := Option.isSome_iff_exists.mp c5
  have nx : X.N[i]? = some x := by rw [O.nm]; exact ixN_get hi
  have ny : X.N[j]? = some y := by rw [O.nm]; exact ixN_get hj
  have hij : i ≠ j := fun z => c1 (by rw [z, ny] at nx; exact (Option.some.inj nx).symm)
  have hb : X.env.blockKind = .function := by unfold Env.blockKind; rw [O.kind]; rfl
  refine WS.mk (ps_par O.calm (by rw [O.nm]; exact O.nd) nx ny hij (loc c2) (loc c3) pa_wa (swapped2 hb (loc c2) (loc c3) c6 c7 c8 c1 c9 c10) rfl) ?_
  refine S.es O R (h.bind.imp fun ds ρ1 G1 H1 _ g1 e1 R1 h1 vs il => ?_)
  split at h1
  · rename_i d e _
    cases il with | cons i1 il => cases il with | cons i2 il => cases il with | nil =>
    rename_i v w
    cases es : (store N sc x (.fz d) ρ1).bind fun ρ2 => store N sc y (.fz e) ρ2 with
    | none => rw [es] at h1; exact h1.elim
    | some ρ3 =>
      rw [es] at h1
      obtain ⟨ρ2, s1, s2⟩ := bind_some' es
      obtain ⟨i', z1, _, z3, rfl⟩ := store_inv s1
      rw [hi] at z1
      cases z1
      obtain ⟨q1, q2⟩ := put_fz (v := v) R1 z3 i1
      obtain ⟨j', z1, _, z3', rfl⟩ := store_inv s2
      rw [hj] at z1
      cases z1
      obtain ⟨q3, q4⟩ := put_fz (v := w) q2 z3' i2
      exact ⟨v, w, rfl, h1 _ G1 H1 (q1.trans q3) q4⟩
  · exact h1.elim
omit S in
theorem fsL_lookup {K : PySem.W.Frag} {G : Hp} {f : Str} {d : D} : ∀ {xs : List (Str × V)} {fs : List (Str × D)}, FsL K G xs fs → fs.lookup f = some d → ∃ v, xs.lookup f = some v ∧ Is K G v d
  | _, _, .nil, h => by cases h
  | (y, v) :: xs, (_, e) :: fs, .cons i r, h => by
    rw [List.lookup_cons] at h ⊢
    cases q : f == y with
    | true =>
      rw [q] at h
      cases h
      exact ⟨v, rfl, i⟩
    | false =>
      rw [q] at h
      exact fsL_lookup r h
/-- what is known in an except suite -/
structure Su (M : Mdl) (N : List Str) (X : Cx) (G1 : Hp) (σs : L2.St) (x : Str) (fs : List (Str × D)) (n : Str) (i : Nat) (a : Addr) (oe : Obj) (cls : Value) (dd : Option Addr) : Prop where
  z : Zc cls dd oe
  f : ∃ vs, oe.data = .fields vs
  ix : ixN? N n = some i
  ok : nameOk n = true
  lc : X.env.scope.names.lookup n = some .local
  sl : σs[i]? = some (some (.ref a))
  xi : XIs X.mg X.K G1 cls dd x fs
section
variable {G1 : Hp} {σs : L2.St} {x n : Str} {fs : List (Str × D)} {i : Nat} {a : Addr} {oe : Obj} {cls : Value} {dd : Option Addr} {pn : List (Addr × Obj)}
omit S in
theorem sufA_ok (O : XOk M N sc k X W) (U : Su M N X G1 σs x fs n i a oe cls dd) {e : Expr} {d : D} (h : sufA M x fs n e = some d) :
    ∃ t, PE (X.suite a ((a, oe) :: pn)) e t ∧ ∀ {G' H' : Hp} {Q : VK}, Same G1 G' → Same G' H' → (∀ v, Is X.K G' v d → Q v H') → t σs H' Q := by
  cases e with
  | Constant c j p =>
    simp only [sufA] at h
    split at h
    · cases h; exact ⟨_, pe_int, fun _ _ q => q _ (.int _)⟩
    · cases h; exact ⟨_, pe_bl, fun _ _ q => q _ (.bl _)⟩
    · cases h; exact ⟨_, pe_non, fun _ _ q => q _ .non⟩
    · cases h; exact ⟨_, pe_str, fun _ _ q => q _ (.str _)⟩
    · cases h
  | Attribute o f p =>
    cases o with
    | Name m pm =>
      simp only [sufA] at h
      split at h
      · rename_i e
        subst e
        split at h
        · rename_i hf
          obtain ⟨C, hm, T, hno⟩ := O.md.fld x f hf
          obtain ⟨C', dx, xs, hm', ec, ed, eg, fl⟩ := U.xi
          rw [hm] at hm'
          cases hm'
          have pv : PE (X.suite a ((a, oe) :: pn)) (.Name m pm) (tVar i) := pe_var (X := X.suite a ((a, oe) :: pn)) (by show X.N[i]? = _; rw [O.nm]; exact ixN_get U.ix) (.inl U.lc) (nameOk_dbg U.ok) (nameOk_cd U.ok)
          refine ⟨_, pe_xf T hno U.z U.f pv, fun {G' H' Q} g1 g2 q => ?_⟩
          obtain ⟨v, ev, iv⟩ := fsL_lookup fl h
          exact ⟨.ref a, U.sl, rfl, ec, dx, xs, v, ed, g2 _ _ (g1 _ _ eg), ev, q v (iv.mono g1)⟩
        · cases h
      · cases h
    | _ => cases h
  | _ => cases h
omit S in
theorem sufL_ok (O : XOk M N sc k X W) (U : Su M N X G1 σs x fs n i a oe cls dd) : ∀ {es : List Expr} {ds : List D}, sufL M x fs n es = some ds →
    ∃ t, PA (X.suite a ((a, oe) :: pn)) es t ∧ ∀ {G' H' : Hp} {Q : List V → Hp → Prop}, Same G1 G' → Same G' H' → (∀ vs, IsL X.K G' vs ds → Q vs H') → t σs H' Q
  | [], ds, h => by
    cases h
    exact ⟨_, pa_nil, fun _ _ q => q [] .nil⟩
  | e :: es, ds, h => by
    unfold sufL at h
    split at h
    · rename_i hs
      obtain ⟨d, h1, h⟩ := bind_some' h
      obtain ⟨ds', h2, rfl⟩ := map_some h
      obtain ⟨t, p1, q1⟩ := sufA_ok O U h1
      obtain ⟨ts, p2, q2⟩ := sufL_ok O U h2
      exact ⟨_, pa_cons p1 p2 (star_cons hs), fun g1 g2 q => q1 g1 g2 fun v iv => q2 g1 g2 fun vs il => q (v :: vs) (.cons iv il)⟩
    · cases h
omit S in
theorem sufE_ok (O : XOk M N sc k X W) (U : Su M N X G1 σs x fs n i a oe cls dd) {e : Expr} {d : D} (h : sufE M x fs n e = some d) :
    ∃ t, PE (X.suite a ((a, oe) :: pn)) e t ∧ ∀ {σ0 : L2.St} {ρ0 : Ro} {G' H' : Hp} {Q : VK}, Same G1 G' → Rep X.K G' H' σ0 ρ0 → (∀ v G2 H2, Go σ0 ρ0 G' H' σ0 ρ0 G2 H2 → Rep X.K G2 H2 σ0 ρ0 → Is X.K G2 v d → Q v H2) → t σs H' Q := by
  have at_ : ∀ {e : Expr} {d : D}, sufA M x fs n e = some d → ∃ t, PE (X.suite a ((a, oe) :: pn)) e t ∧ ∀ {σ0 : L2.St} {ρ0 : Ro} {G' H' : Hp} {Q : VK}, Same G1 G' → Rep X.K G' H' σ0 ρ0 → (∀ v G2 H2, Go σ0 ρ0 G' H' σ0 ρ0 G2 H2 → Rep X.K G2 H2 σ0 ρ0 → Is X.K G2 v d → Q v H2) → t σs H' Q := fun {e d} h => by
    obtain ⟨t, p, q⟩ := sufA_ok O U h
    exact ⟨t, p, fun g1 R q' => q g1 R.ex fun v iv => q' v _ _ Go.refl R iv⟩
  cases e with
  | Tuple es j p =>
    obtain ⟨ds, h1, h⟩ := bind_some' (show ((sufL M x fs n es).bind fun ds => if szOk ds.length then some (D.tup ds) else none) = some d from h)
    split at h
    · rename_i c
      cases h
      obtain ⟨t, p1, q1⟩ := sufL_ok O U h1
      refine ⟨_, pe_tup p1, fun {σ0 ρ0 G' H' Q} g1 R q => q1 g1 R.ex fun vs il => ⟨by rw [il.length]; exact of_decide_eq_true c, fun pp hp => ?_⟩⟩
      exact q (.ref pp) _ _ (go_fix R hp) (rep_fix R hp) (.tup (.inl (.inl upd_same)) (il.mono (same_upd (R.gnone hp))))
    · cases h
  | List es p =>
    obtain ⟨ds, h1, h⟩ := bind_some' (show ((sufL M x fs n es).bind fun ds => if szOk ds.length then some (D.lst ds) else none) = some d from h)
    split at h
    · rename_i c
      cases h
      obtain ⟨t, p1, q1⟩ := sufL_ok O U h1
      refine ⟨_, pe_lst p1, fun {σ0 ρ0 G' H' Q} g1 R q => q1 g1 R.ex fun vs il => ⟨by rw [il.length]; exact of_decide_eq_true c, fun pp hp => ?_⟩⟩
      exact q (.ref pp) _ _ (go_fix R hp) (rep_fix R hp) (.lst upd_same (il.mono (same_upd (R.gnone hp))))
    · cases h
  | Constant c j p => exact at_ h
  | Attribute o f p => exact at_ h
  | _ => cases h
omit S in
theorem sufS_ok (O : XOk M N sc k X W) {σ' : L2.St} {ρ1 : Ro} {G' H' : Hp} (U : Su M N X G' (σ'.set i (some (.ref a))) x fs n i a oe cls dd) (R : Rep X.K G' H' (σ'.set i none) (ρ1.set i .un)) {st : Stmt} {D' : Ends}
    (h : PostF X.mg X.K W (σ'.set i none) (ρ1.set i .un) G' H' (sufS M N sc x fs n st (ρ1.set i .un)) D') {bk ct : L2.St → Hp → Prop} :
    WSs (X.suite a ((a, oe) :: pn)) [st] { nx := fun σ2 H2 => D'.nx (σ2.set i none) H2, rt := D'.rt, bk := bk, ct := ct } (σ'.set i (some (.ref a))) H' := by
  cases st with
  | Pass p =>
    refine WSs.mk (pss_cons ps_pass pss_nil) ?_
    show D'.nx ((σ'.set i (some (.ref a))).set i none) H'
    rw [List.set_set]
    exact h _ G' H' Go.refl R
  | Return e p =>
    cases e with
    | none => exact WSs.mk (pss_cons ps_retN pss_nil) (h .non _ G' H' Go.refl R .non fun _ _ z _ => by cases z)
    | some e =>
      simp only [sufS] at h
      split at h
      · rename_i d ed
        obtain ⟨t, p1, q1⟩ := sufE_ok O U ed
        refine WSs.mk (pss_cons (ps_ret p1) pss_nil) ?_
        exact q1 (Same.refl _) R fun v G2 H2 g R2 iv => h v _ G2 H2 g R2 iv fun _ _ z _ => by cases z
      · exact h.elim
  | Assign ts e p =>
    cases ts with
    | nil => exact (show False from h).elim
    | cons t ts =>
      cases ts with
      | cons _ _ => cases t <;> exact (show False from h).elim
      | nil =>
        cases t with
        | Name y py =>
          simp only [sufS] at h
          split at h
          · rename_i c
            simp only [Bool.and_eq_true, decide_eq_true_eq, Bool.not_eq_true'] at c
            split at h
            · rename_i d ed
              obtain ⟨t, p1, q1⟩ := sufE_ok (pn := pn) O U ed
              cases es : store N sc y (.fz d) (ρ1.set i .un) with
              | none => rw [es] at h; exact h.elim
              | some ρ2 =>
                rw [es] at h
                obtain ⟨j, z1, z2, z3, rfl⟩ := store_inv es
                obtain ⟨l1, l2⟩ := O.loc z2
                have hij : i ≠ j := fun z => c.1 (by
                  have e1 := ixN_get z1
                  have e2 := ixN_get U.ix
                  rw [z, e1] at e2
                  exact Option.some.inj e2)
                refine WSs.mk (pss_cons (ps_set (X := X.suite a ((a, oe) :: pn)) (by show X.N.Nodup; rw [O.nm]; exact O.nd) (by show X.N[j]? = _; rw [O.nm]; exact ixN_get z1) l1 p1 (swaps_false c.2) l2) pss_nil) ?_
                refine q1 (Same.refl _) R fun v G2 H2 g R2 iv => ?_
                show D'.nx (((σ'.set i (some (.ref a))).set j (some v)).set i none) H2
                rw [List.set_comm _ _ (Ne.symm hij), List.set_set]
                obtain ⟨q3, q4⟩ := put_fz (v := v) R2 z3 iv
                exact h _ G2 H2 (g.trans q3) q4
            · exact h.elim
          · exact h.elim
        | _ => exact (show False from h).elim
  | _ => exact (show False from h).elim
end
/-- try: .. except C as n: one statement over n's fields -/
theorem snd_try {body : List Stmt} {c n : Str} {pc ph p : Pos} {st : Stmt} {i : Nat} {D' : Ends} (O : XOk M N sc k X W) (Fm : Frm X) (R : Rep X.K G H σ ρ) (hi : ixN? N n = some i) (hl : X.env.scope.names.lookup n = some .local) (hn : nameOk n = true) (hg : gloK sc c = true) (hx : M.glob c = .ex)
    (h : PostF X.mg X.K W σ ρ G H (match E.ss sc body ρ with
      | .exc x fs ρ1 => (match M.isx x c with
        | some false => .exc x fs ρ1
        | some true => if flatSl ρ1[i]? then sufS M N sc x fs n st (ρ1.set i .un) else .stuck
        | none => .stuck)
      | r => r) D') : WS X (.Try body [.ExceptHandler (some (.Name c pc)) (some n) [st] ph] [] [] p) D' σ H := by
  obtain ⟨C, hm, _⟩ := O.md.ex c hx
  have nd : X.N.Nodup := by rw [O.nm]; exact O.nd
  have nx : X.N[i]? = some n := by rw [O.nm]; exact ixN_get hi
  refine WS.mk (ps_try_as (tb := fun W' D σ H => ∀ pn xe, Takes (X.tr pn xe) W' → PassesOwn (model X.prog X.w) X.A X.env xe → WSs (X.tr pn xe) body D σ H)
    (ts := fun a cls d D σ H => ∀ oe pn, Zc cls d oe → (∃ vs, oe.data = .fields vs) → WSs (X.suite a ((a, oe) :: pn)) [st] D σ H) (Wout := W) Fm.1 Fm.2 nd nx hl ⟨O.glo hg, nameOk_dbg (glo_name hg), .inl hm⟩ O.tk
    (fun W' pn xe tk hp => ⟨fun pins s σ H D I h => pss_wss.run pins s σ H D I (h pn xe tk hp)⟩) (fun a oe cls d pn hz hf => ⟨fun pins s σ H D I h => pss_wss.run pins s σ H D I (h oe pn hz hf)⟩)) ?_
  intro pn xe tk hp
  refine S.ss (X := X.tr pn xe) (W := wAs X.K (.ref C) i _ W D') (k := k) ⟨O.nm, O.nd, O.rel, O.fn, O.kind, O.calm, O.room, tk, hp, O.md⟩ Fm R ?_
  cases er : E.ss sc body ρ with
  | stuck => rw [er] at h; exact h
  | next ρ1 => rw [er] at h; exact h
  | brk ρ1 => rw [er] at h; exact h
  | cnt ρ1 => rw [er] at h; exact h
  | ret b ρ1 => rw [er] at h; exact h
  | exc x fs ρ1 =>
    rw [er] at h
    intro cls dd σ' G' H' g R' xi
    simp only at h
    cases eb : M.isx x c with
    | none => rw [eb] at h; exact h.elim
    | some b =>
      rw [eb] at h
      obtain ⟨C1, C2, m1, m2, ex⟩ := O.md.isx x c b eb
      rw [hm] at m2
      cases m2
      have xi' := xi
      obtain ⟨C', dx, xs, m3, ec, _, _, _⟩ := xi'
      have m3' : X.mg x = some (.ref C') := m3
      rw [m1] at m3'
      cases m3'
      refine ⟨b, by rw [ec]; exact ex, fun hb a ha => ?_, fun hb => ?_⟩
      · subst hb
        simp only at h
        split at h
        · rename_i hfl
          intro oe pn' hz hf
          have fl : FlatAt ρ1 [i] := fun j hj => by
            have e : j = i := by simpa using hj
            rw [e]
            exact hfl
          obtain ⟨w1, w2⟩ := wipe_ok R' fl
          have hlt : i < σ'.length := by
            rw [R'.len]
            cases q : ρ1[i]? with
            | none => rw [q] at hfl; cases hfl
            | some s => exact lt_get q
          have U : Su M N X G' (σ'.set i (some (.ref a))) x fs n i a oe cls dd := ⟨hz, hf, hi, hn, hl, List.getElem?_set_self hlt, xi⟩
          exact sufS_ok O U w2 (PostF.later (r := sufS M N sc x fs n st (ρ1.set i .un)) h (g.trans w1))
        · exact h.elim
      · subst hb
        exact h cls dd σ' G' H' g R' xi
omit S in
theorem loc_of (O : XOk M N sc k X W) {z : Str} (e : sc.names.lookup z = some .local) : X.env.scope.names.lookup z = some .local := by
  rcases O.rel z with r | ⟨r, _⟩
  · rw [r, e]
  · rw [e] at r; cases r
theorem snd_s {st : Stmt} {D' : Ends} (O : XOk M N sc k X W) (Fm : Frm X) (R : Rep X.K G H σ ρ) (h : PostF X.mg X.K W σ ρ G H (stepS M N E sc st ρ) D') : WS X st D' σ H := by
  cases st with
  | Assign ts v p =>
    match ts, h with
    | [], h => exact (show False from h).elim
    | _ :: _ :: _, h => exact (show False from h).elim
    | [tg], h =>
      cases tg with
      | Name x px =>
        simp only [stepS] at h
        split at h
        · rename_i c
          obtain ⟨c1, c2⟩ := Bool.and_eq_true_iff.mp c
          split at h
          · exact snd_setLc S O R c1 c2 h
          · split at h
            · exact h.elim
            · rename_i hc
              exact snd_set S O R c1 c2 (by simpa using hc) h
        · exact h.elim
      | Tuple es j pt =>
        have gen : ∀ {v : Expr}, PostF X.mg X.K W σ ρ G H (if es.all (nmOk N sc) && !isComp v then (E.e sc v ρ).toF fun b ρ1 => (whole b ρ1).toF fun d ρ2 => Rf.of (asgT N sc (.Tuple es j pt) d ρ2) else .stuck) D' → isTupE v = false → WS X (.Assign [.Tuple es j pt] v p) D' σ H := fun {v} h ht => by
          split at h
          · rename_i c
            simp only [Bool.and_eq_true, Bool.not_eq_true'] at c
            exact snd_setT S O R c.1 ht c.2 h
          · exact h.elim
        cases v with
        | Tuple vs j2 pt2 =>
          have h' : PostF X.mg X.K W σ ρ G H (parS N E sc es vs ρ) D' := h
          unfold parS at h'
          split at h'
          · split at h'
            · rename_i hc
              exact snd_par S O R hc h'
            · exact h'.elim
          · exact h'.elim
        | _ => exact gen h rfl
      | Subscript o ix ps =>
        simp only [stepS] at h
        split at h
        · exact h.elim
        · rename_i hc
          simp only [Bool.or_eq_true, not_or, Bool.not_eq_true] at hc
          exact snd_setSub S O R hc.1 hc.2 h
      | _ => exact (show False from h).elim
  | AugAssign tg op v p =>
    cases tg with
    | Name x px => exact snd_aug S O R h
    | _ => exact (show False from h).elim
  | Expr e p =>
    cases e with
    | Constant c j pc =>
      cases c with
      | str z => exact WS.mk ps_doc (h σ G H Go.refl R)
      | _ => exact snd_drop S O R rfl h
    | ListComp _ _ _ _ => exact (show False from h).elim
    | SetComp _ _ _ _ => exact (show False from h).elim
    | DictComp _ _ _ _ _ => exact (show False from h).elim
    | _ => exact snd_drop S O R rfl h
  | Pass p => exact WS.mk ps_pass (h σ G H Go.refl R)
  | Break p => exact WS.mk ps_break (h σ G H Go.refl R)
  | Continue p => exact WS.mk ps_continue (h σ G H Go.refl R)
  | Return e p =>
    cases e with
    | none => exact WS.mk ps_retN (h .non σ G H Go.refl R .non fun _ _ z _ => by cases z)
    | some e => exact snd_ret S O R h
  | If c a b p => exact snd_if S O Fm R h
  | For tg it body orelse p =>
    cases orelse with
    | nil => exact snd_for S O Fm R h
    | cons _ _ => exact (show False from h).elim
  | While c body orelse p =>
    cases orelse with
    | nil => exact snd_while S O Fm R h
    | cons _ _ => exact (show False from h).elim
  | Try body hds orelse fin p =>
    unfold stepS at h
    split at h
    all_goals try (rename_i q; cases q; done)
    all_goals try exact h.elim
    rename_i e
    cases e
    split at h
    · exact h.elim
    · rename_i i hi
      split at h
      · rename_i c
        have hl := loc_of O c
        split at h
        · rename_i hx
          split at h
          · rename_i cc
            simp only [Bool.and_eq_true, Bool.true_and, Bool.and_true] at cc
            exact snd_try S O Fm R hi hl cc.1 cc.2 hx h
          · exact h.elim
        · split at h
          · rename_i cc
            rw [Bool.and_false, Bool.and_false] at cc
            cases cc
          · exact h.elim
      · rw [Bool.false_and, Bool.false_and] at h
        exact (show False from h).elim
  | Raise e c p =>
    cases c with
    | some _ =>
      cases e with
      | none => exact (show False from h).elim
      | some e => exact (show False from by unfold stepS at h; split at h <;> first | exact h.elim | (rename_i z; cases z)).elim
    | none =>
      cases e with
      | none => exact (show False from h).elim
      | some e =>
        cases e with
        | Call fn args kws pc =>
          cases fn with
          | Name x px =>
            match args, kws, h with
            | [], _, h => exact (show False from h).elim
            | _ :: _, _ :: _, h => exact (show False from h).elim
            | a :: r, [], h =>
              simp only [stepS] at h
              split at h
              · rename_i c
                obtain ⟨c1, c2⟩ := Bool.and_eq_true_iff.mp c
                split at h
                · rename_i hx
                  exact snd_raise S O R c1 hx c2 h
                · exact h.elim
              · exact h.elim
          | _ => exact (show False from h).elim
        | _ => exact (show False from h).elim
  | _ => exact (show False from h).elim
omit S in
theorem snd_step {E : Ev} (S : Snd M N E) : Snd M N (step M N E) where
  e := fun O R h => VE.snd_e S O R h
  t := fun O R h => VE.snd_t S O R h
  es := fun O R h => VE.snd_es S O R h
  as := fun O R h => VE.snd_as S O R h
  s := fun O Fm R h => VE.snd_s S O Fm R h
  ss := fun O Fm R h => VE.snd_ss S O Fm R h
omit S in
theorem snd_bot : Snd M N Ev.bot := ⟨fun _ _ h => (show False from h).elim, fun _ _ h => (show False from h).elim, fun _ _ h => (show False from h).elim, fun _ _ h => (show False from h).elim, fun _ _ _ h => (show False from h).elim, fun _ _ _ h => (show False from h).elim⟩
omit S in
/-- the evaluator is sound -/
theorem snd_ev : ∀ n, Snd M N (ev M N n)
  | 0 => snd_bot
  | n + 1 => snd_step (snd_ev n)
end
end VE
end

section
set_option Elab.async false
set_option linter.all false
set_option maxRecDepth 100000
set_option maxHeartbeats 1000000
/-! VE15: functions. -/
namespace VE
open PySem PySem.Spec L2

/-- a def -/
structure Fn where
  N : List Str
  np : Nat
  sc : Scope
  body : List Stmt
def parOk : Sl → Bool
  | .fz _ => true
  | .ow .par _ => true
  | .ow .lck _ => true
  | _ => false
/-- what the parameters' slots are, behind the body: a list of the caller's as it is now, else as it was -/
def outS : List Sl → Ro → List Sl
  | [], _ => []
  | .ow _ d :: sls, s :: ρ => s :: outS sls ρ
  | .ow m d :: sls, [] => .ow m d :: outS sls []
  | s :: sls, _ :: ρ => s :: outS sls ρ
  | s :: sls, [] => s :: outS sls []
def endF (sls : List Sl) : Rf → Cr
  | .next ρ => .ret .non false (outS sls ρ)
  | .ret (.va d f) ρ => .ret d f (outS sls ρ)
  | .ret (.at i) ρ => (match ρ[i]? with
    | some (.ow .own d) => .ret d true (outS sls ρ)
    | _ => (match whole (.at i) ρ with
      | .ok d ρ1 => .ret d false (outS sls ρ1)
      | _ => .stuck))
  | .exc c fs ρ => .exc c fs (outS sls ρ)
  | _ => .stuck
def callF (M : Mdl) (n : Nat) (F : Fn) (sls : List Sl) : Cr :=
  if decide (sls.length = F.np) && sls.all parOk then endF sls ((ev M F.N n).ss F.sc F.body (sls ++ List.replicate (F.N.length - F.np) .un)) else .stuck

theorem outS_get : ∀ {sls : List Sl} {ρ : Ro} {i : Nat}, (outS sls ρ)[i]? = match sls[i]? with
    | some (.ow m d) => (match ρ[i]? with | some s => some s | none => some (.ow m d))
    | o => o
  | [], ρ, i => by simp [outS]
  | s :: sls, ρ, 0 => by
    cases s <;> cases ρ <;> simp [outS]
  | s :: sls, [], i + 1 => by
    have ih := outS_get (sls := sls) (ρ := []) (i := i)
    cases s <;> simpa [outS] using ih
  | s :: sls, t :: ρ, i + 1 => by
    have ih := outS_get (sls := sls) (ρ := ρ) (i := i)
    cases s <;> simpa [outS] using ih
theorem outS_len : ∀ {sls : List Sl} {ρ : Ro}, (outS sls ρ).length = sls.length
  | [], _ => rfl
  | s :: sls, [] => by cases s <;> simp [outS, outS_len (sls := sls) (ρ := [])]
  | s :: sls, t :: ρ => by cases s <;> simp [outS, outS_len (sls := sls) (ρ := ρ)]

section
variable {K : PySem.W.Frag} {G H G' H' : Hp} {σ' : L2.St} {ρ' : Ro} {vs : List V} {sls : List Sl} {n : Nat}
theorem start_rep (R : Rep K G H (vs.map some) sls) : Rep K G H (vs.map some ++ List.replicate n none) (sls ++ List.replicate n .un) := by
  have hl : vs.length = sls.length := by have := R.len; simpa using this
  have getσ : ∀ i, i < sls.length → (vs.map some ++ List.replicate n none)[i]? = (vs.map some)[i]? := fun i h => List.getElem?_append_left (by simpa [hl] using h)
  have getρ : ∀ i, i < sls.length → (sls ++ List.replicate n Sl.un)[i]? = sls[i]? := fun i h => List.getElem?_append_left h
  have owAt : ∀ i a, OwAt (vs.map some ++ List.replicate n none) (sls ++ List.replicate n .un) i a → OwAt (vs.map some) sls i a := fun i a ⟨m, d, e1, e2⟩ => by
    rcases Nat.lt_or_ge i sls.length with h | h
    · rw [getρ i h] at e1
      rw [getσ i h] at e2
      exact ⟨m, d, e1, e2⟩
    · rw [List.getElem?_append_right h, List.getElem?_replicate] at e1
      split at e1 <;> cases e1
  refine ⟨R.ex, by simp [hl], fun i s e => ?_, fun i j a o1 o2 => R.dj i j a (owAt i a o1) (owAt j a o2)⟩
  rcases Nat.lt_or_ge i sls.length with h | h
  · rw [getρ i h] at e
    rw [getσ i h]
    exact R.sl i s e
  · rw [List.getElem?_append_right h, List.getElem?_replicate] at e
    split at e
    · rename_i hlt
      cases e
      show (vs.map some ++ List.replicate n none)[i]? = some none
      rw [List.getElem?_append_right (by simpa [hl] using h), List.getElem?_replicate]
      rw [if_pos (by simpa [hl] using hlt)]
    · cases e
/-- behind the body: the caller's view -/
theorem end_go (R : Rep K G H (vs.map some) sls) (hp : sls.all parOk = true) (g : Go (vs.map some ++ List.replicate n none) (sls ++ List.replicate n .un) G H σ' ρ' G' H') (R' : Rep K G' H' σ' ρ') :
    Go (vs.map some) sls G H (vs.map some) (outS sls ρ') G' H' ∧ Rep K G' H' (vs.map some) (outS sls ρ') ∧ ∀ i a, OwAt (vs.map some) (outS sls ρ') i a → OwAt σ' ρ' i a := by
  have hl : vs.length = sls.length := by have := R.len; simpa using this
  have getσ : ∀ i, i < sls.length → (vs.map some ++ List.replicate n none)[i]? = (vs.map some)[i]? := fun i h => List.getElem?_append_left (by simpa [hl] using h)
  have getρ : ∀ i, i < sls.length → (sls ++ List.replicate n Sl.un)[i]? = sls[i]? := fun i h => List.getElem?_append_left h
  have moS : ∀ a, Mo (vs.map some ++ List.replicate n none) (sls ++ List.replicate n .un) a → Mo (vs.map some) sls a := fun a ⟨i, m, d, hm, e1, e2⟩ => by
    rcases Nat.lt_or_ge i sls.length with h | h
    · rw [getρ i h] at e1
      rw [getσ i h] at e2
      exact ⟨i, m, d, hm, e1, e2⟩
    · rw [List.getElem?_append_right h, List.getElem?_replicate] at e1
      split at e1 <;> cases e1
  -- a slot behind the body
  have slot : ∀ {i : Nat} {s : Sl}, (outS sls ρ')[i]? = some s → (∃ m d, sls[i]? = some (.ow m d) ∧ pinned (.ow m d) = true ∧ ρ'[i]? = some s ∧ σ'[i]? = (vs.map some)[i]? ∧ PinTo (.ow m d) s) ∨ (∃ d, s = .fz d ∧ sls[i]? = some (.fz d)) := fun {i s} e => by
    rw [outS_get] at e
    cases q : sls[i]? with
    | none => rw [q] at e; cases e
    | some t =>
      have hi : i < sls.length := lt_get q
      have ht : parOk t = true := List.all_eq_true.mp hp t (List.mem_of_getElem? q)
      rw [q] at e
      cases t with
      | fz d => cases e; exact .inr ⟨d, rfl, rfl⟩
      | ow m d =>
        have pn : pinned (.ow m d) = true := by
          cases m with
          | own => cases ht
          | par => rfl
          | lck => rfl
        obtain ⟨z1, s', z2, z3⟩ := g.pin i _ (by rw [getρ i hi]; exact q) pn
        simp only [z2] at e
        cases e
        exact .inl ⟨m, d, rfl, pn, z2, by rw [z1, getσ i hi], z3⟩
      | un => cases ht
      | pz d => cases ht
  have owAt : ∀ i a, OwAt (vs.map some) (outS sls ρ') i a → OwAt σ' ρ' i a := fun i a ⟨m, d, e1, e2⟩ => by
    rcases slot e1 with ⟨_, _, _, _, z1, z2, _⟩ | ⟨_, z, _⟩
    · exact ⟨m, d, z1, by rw [z2]; exact e2⟩
    · cases z
  refine ⟨⟨g.g, fun a o e m => g.keep a o e fun z => m (moS a z), fun a o e z m => g.fr a o e z fun y => m (moS a y), fun a mo => ?_, fun j s e p => ⟨rfl, ?_⟩, g.there⟩, ⟨R'.ex, by rw [outS_len]; simpa using hl, fun i s e => ?_, fun i j a o1 o2 => R'.dj i j a (owAt i a o1) (owAt j a o2)⟩, owAt⟩
  · obtain ⟨i, m, d, hm, e1, e2⟩ := mo
    rcases slot e1 with ⟨_, _, _, _, z1, z2, _⟩ | ⟨_, z, _⟩
    · exact (g.own a ⟨i, m, d, hm, z1, by rw [z2]; exact e2⟩).imp (moS a) id
    · cases z
  · have hi : j < (outS sls ρ').length := by rw [outS_len]; exact lt_get e
    refine ⟨_, List.getElem?_eq_getElem hi, ?_⟩
    rcases slot (List.getElem?_eq_getElem hi) with ⟨m, d, z0, _, z1, z2, z3⟩ | ⟨d, z, z0⟩
    · rw [e] at z0
      cases z0
      exact z3
    · rw [e] at z0
      cases z0
      cases p
  · rcases slot e with ⟨m, d, z0, _, z1, z2, z3⟩ | ⟨d, rfl, z0⟩
    · rw [← z2]
      exact R'.sl i s z1
    · obtain ⟨v, q1, q2⟩ := R.sl i _ z0
      exact ⟨v, q1, q2.mono g.g⟩
end

section
variable {M : Mdl} {k n : Nat} {X : Cx} {W : WX} {G H : Hp} {vs : List V} {sls : List Sl} {F : Fn} {Q : VK} {E : XK}
theorem fn_body (O : XOk M F.N F.sc k X (fun cls d _ H => E cls d H)) (Fm : Frm X) (hl : vs.length = F.np) (R : Rep X.K G H (vs.map some) sls) (h : PostC X.mg X.K (vs.map some) sls G H (callF M n F sls) Q E) :
    WSs X F.body { nx := fun _ H' => Q .non H', rt := Q } (L2.start F.N vs) H := by
  unfold callF at h
  split at h
  case isFalse => exact h.elim
  rename_i c
  obtain ⟨c1, hp⟩ := Bool.and_eq_true_iff.mp c
  have R0 : Rep X.K G H (L2.start F.N vs) (sls ++ List.replicate (F.N.length - F.np) .un) := by
    unfold L2.start
    rw [hl]
    exact start_rep R
  refine (snd_ev (M := M) (N := F.N) n).ss O Fm R0 ?_
  have fin : ∀ {σ' : L2.St} {ρ' : Ro} {G' H' : Hp}, Go (L2.start F.N vs) (sls ++ List.replicate (F.N.length - F.np) .un) G H σ' ρ' G' H' → Rep X.K G' H' σ' ρ' →
      Go (vs.map some) sls G H (vs.map some) (outS sls ρ') G' H' ∧ Rep X.K G' H' (vs.map some) (outS sls ρ') := fun {σ' ρ' G' H'} g R' => by
    unfold L2.start at g
    rw [hl] at g
    obtain ⟨q1, q2, _⟩ := end_go R hp g R'
    exact ⟨q1, q2⟩
  cases er : (ev M F.N n).ss F.sc F.body (sls ++ List.replicate (F.N.length - F.np) .un) with
  | stuck => rw [er] at h; exact h
  | brk ρ' => rw [er] at h; exact (show False from h).elim
  | cnt ρ' => rw [er] at h; exact (show False from h).elim
  | next ρ' =>
    rw [er] at h
    intro σ' G' H' g R'
    obtain ⟨q1, q2⟩ := fin g R'
    exact h .non G' H' q1 q2 .non
  | exc c' fs ρ' =>
    rw [er] at h
    intro cls dd σ' G' H' g R' xi
    obtain ⟨q1, q2⟩ := fin g R'
    exact h cls dd G' H' q1 q2 xi
  | ret b ρ' =>
    rw [er] at h
    intro v σ' G' H' g R' dn nw
    cases b with
    | va d f =>
      obtain ⟨q1, q2⟩ := fin g R'
      refine h v G' H' q1 q2 ?_
      cases f with
      | false => exact dn
      | true =>
        obtain ⟨a, ea, c, _⟩ := dn
        exact ⟨a, ea, nw d a rfl ea, c⟩
    | «at» i =>
      have hv : σ'[i]? = some (some v) := dn
      simp only [endF] at h
      split at h
      · rename_i d e
        obtain ⟨q1, q2⟩ := fin g R'
        refine h v G' H' q1 q2 ?_
        obtain ⟨a, ea, c⟩ := R'.sl i _ e
        rw [hv] at ea
        cases ea
        refine ⟨a, rfl, ?_, c⟩
        rcases g.own a ⟨i, .own, d, (fun z => by cases z), e, hv⟩ with mo | z
        · -- a parameter's own list is not a local's
          exfalso
          obtain ⟨j, m, d0, hm, e1, e2⟩ := mo
          have hj : j < sls.length := by
            rcases Nat.lt_or_ge j sls.length with q | q
            · exact q
            · rw [List.getElem?_append_right q, List.getElem?_replicate] at e1
              split at e1 <;> cases e1
          have e1' : sls[j]? = some (.ow m d0) := by rw [← e1, List.getElem?_append_left hj]
          have ht : parOk (.ow m d0) = true := List.all_eq_true.mp hp _ (List.mem_of_getElem? e1')
          have hm' : m = .par := by
            cases m with
            | own => cases ht
            | par => rfl
            | lck => exact absurd rfl hm
          subst hm'
          obtain ⟨z1, s', z2, z3⟩ := g.pin j _ e1 rfl
          rw [e2] at z1
          rcases z3 with ⟨d2, z3⟩ | ⟨d2, z3⟩
          · subst z3
            have := R'.dj i j a ⟨.own, d, e, hv⟩ ⟨.par, d2, z2, z1⟩
            subst this
            rw [e] at z2
            cases z2
          · subst z3
            obtain ⟨a2, xs, ds, y1, _, y3, _⟩ := R'.sl j _ z2
            rw [z1] at y1
            cases y1
            rw [c.1] at y3
            cases y3
        · exact z
      · split at h
        · rename_i d ρ1 hw
          obtain ⟨G2, g2, _, R2, i2⟩ := whole_of R' Go.refl (Evo.refl _) (show Out X.K H' G' H' σ' ρ' v (.at i) from ⟨dn, fun _ _ z => by cases z⟩) hw
          obtain ⟨q1, q2⟩ := fin (g.trans g2) R2
          exact h v G2 H' q1 q2 i2
        · exact h.elim
end
section
variable {M M' : Mdl} {k n : Nat} {P : Program} {w : World} {K : PySem.W.Frag} {mg : Str → Option Value} {base : Heap} {x qual : Str} {params : Arguments} {F : Fn} {dvs : List V} {kws : List (Str × V)} {f : Addr} {fd : FuncData} {ps : List Str}
theorem fn_ok (D : FunD K x qual params F.body F.sc dvs kws f fd) (S : FnScope F.N ps F.sc) (hps : ps.length = F.np) (md : MdOk M k P w K mg base) (hc : ∀ sls, M'.call x sls = callF M n F sls) :
    FnOk P w K mg base (L2.CX P w) (k + 1) f fd ps (spF mg K M' x ps.length) := by
  refine D.ok S (fun vs H Q E ⟨_, _, hl, _⟩ => hl) fun cdv A outer s H vs Q E hr ⟨G, sls, hl, R, h⟩ => ⟨_, pss_wss, ?_⟩
  rw [hc] at h
  refine fn_body (X := cxOf (L2.CX P w) P w K mg base F.N qual F.sc f cdv A outer s H E) (k := k) ⟨rfl, S.nd, fun _ => .inl rfl, fun _ _ => rfl, S.kind, rfl, hr, takes_of rfl rfl rfl rfl, passes_of rfl, md⟩ ⟨rfl, rfl⟩ (hl.trans hps) R h
end
end VE
end

section
set_option Elab.async false
set_option linter.all false
set_option maxRecDepth 100000
set_option maxHeartbeats 1000000
/-! VE16: a module's functions, by the depth of their calls. -/
namespace VE
open PySem PySem.Spec L2

/-- a module: its own functions, its other names -/
structure Tab where
  fns : Str → Option Fn
  oth : Str → Gk
  dfl : Str → Nat → Option (List D)
  mkx : Str → List D → Option (List (Str × D))
  isx : Str → Str → Option Bool
  fok : Str → Str → Bool
  kwp : Str → Nat → List Str → Option (List KwSrc × List D)
def noFn : Gk → Gk
  | .fn => .no
  | g => g
def noEx : Gk → Gk
  | .ex => .no
  | g => g
/-- calls c deep; n the steps of one body -/
def mdl (T : Tab) (n : Nat) : Nat → Mdl
  | 0 => ⟨fun _ => .no, fun _ _ => .stuck, T.dfl, T.mkx, T.isx, T.fok, T.kwp⟩
  | 1 => ⟨fun x => match T.fns x with | some _ => .fn | none => noEx (noFn (T.oth x)), fun x sls => match T.fns x with | some F => callF (mdl T n 0) n F sls | none => .stuck, T.dfl, T.mkx, T.isx, T.fok, T.kwp⟩
  | c + 2 => ⟨fun x => match T.fns x with | some _ => .fn | none => noFn (T.oth x), fun x sls => match T.fns x with | some F => callF (mdl T n (c + 1)) n F sls | none => .stuck, T.dfl, T.mkx, T.isx, T.fok, T.kwp⟩

section
variable {T : Tab} {n : Nat} {P : Program} {w : World} {K : PySem.W.Frag} {mg : Str → Option Value} {base : Heap}
structure TabOk (T : Tab) (P : Program) (w : World) (K : PySem.W.Frag) (mg : Str → Option Value) (base : Heap) : Prop where
  con : ∀ x d, T.oth x = .con d → ∃ u v, mg x = some u ∧ RelV v u ∧ ∀ G, Is K G v d
  free : ∀ x, T.fns x = none → T.oth x = .free → mg x = none
  bfn : ∀ x id, T.oth x = .bfn id → mg x = some (.builtin id)
  fn : ∀ x F, T.fns x = some F → ∃ (f : Addr) (fd : FuncData) (ps : List Str) (nm qual : Str) (params : Arguments) (dvs : List V) (kws : List (Str × V)), mg x = some (.ref f) ∧ FunD K nm qual params F.body F.sc dvs kws f fd ∧ FnScope F.N ps F.sc ∧ ps.length = F.np ∧
    (∀ m ds, T.dfl x m = some ds → ∃ us vs, L2.Binds K fd ps us ∧ Vals vs us ∧ ∀ G, IsL K G vs ds) ∧ ∀ n ks pl dfs, T.kwp x n ks = some (pl, dfs) → KwOk K fd ps n ks pl dfs
  ex : ∀ x, T.oth x = .ex → ∃ C, mg x = some (.ref C) ∧ ∀ M : Mdl, M.mkx = T.mkx → MkX M 2 P w K mg base x C
  isx : ∀ x y b, T.isx x y = some b → ∃ C D, mg x = some (.ref C) ∧ mg y = some (.ref D) ∧ PySem.W.exmOne K (.ref C) (.ref D) = some b
  fld : ∀ x f, T.fok x f = true → ∃ C, mg x = some (.ref C) ∧ XfC K C ∧ PySem.W.findIn K (.ref C) f = some none
theorem callF_len {M : Mdl} {F : Fn} {sls : List Sl} (h : callF M n F sls ≠ .stuck) : sls.length = F.np := by
  unfold callF at h
  split at h
  · rename_i c
    exact of_decide_eq_true (Bool.and_eq_true_iff.mp c).1
  · exact absurd rfl h
theorem fn_ok' {M M' : Mdl} {k : Nat} {x nm qual : Str} {params : Arguments} {F : Fn} {dvs : List V} {kws : List (Str × V)} {f : Addr} {fd : FuncData} {ps : List Str} (D : FunD K nm qual params F.body F.sc dvs kws f fd) (S : FnScope F.N ps F.sc) (hps : ps.length = F.np) (md : MdOk M k P w K mg base) (hc : ∀ sls, M'.call x sls = callF M n F sls) :
    FnOk P w K mg base (L2.CX P w) (k + 1) f fd ps (spF mg K M' x ps.length) := by
  refine D.ok S (fun vs H Q E ⟨_, _, hl, _⟩ => hl) fun cdv A outer s H vs Q E hr ⟨G, sls, hl, R, h⟩ => ⟨_, pss_wss, ?_⟩
  rw [hc] at h
  refine fn_body (X := cxOf (L2.CX P w) P w K mg base F.N qual F.sc f cdv A outer s H E) (k := k) ⟨rfl, S.nd, fun _ => .inl rfl, fun _ _ => rfl, S.kind, rfl, hr, takes_of rfl rfl rfl rfl, passes_of rfl, md⟩ ⟨rfl, rfl⟩ (hl.trans hps) R h
theorem mkx_mono {M : Mdl} {j k : Nat} {x : Str} {C : Addr} (h : j ≤ k) (m : MkX M j P w K mg base x C) : MkX M k P w K mg base x C := by
  obtain ⟨fI, fd, ps, sp, i, a1, a2, a3, a4, a5, a6, a7⟩ := m
  exact ⟨fI, fd, ps, sp, i, a1, a2, a3, a4, a5, Nat.le_trans a6 h, a7⟩
theorem md_fn (ok : TabOk T P w K mg base) {M M' : Mdl} {k : Nat} (md : MdOk M k P w K mg base) (hc : ∀ x sls, M'.call x sls = match T.fns x with | some F => callF M n F sls | none => .stuck) (hd : M'.dfl = T.dfl) (hk : M'.kwp = T.kwp) {x : Str} {F : Fn} (hx : T.fns x = some F) :
    ∃ f fd ps, mg x = some (.ref f) ∧ PySem.W.keepIn K (.ref f) = true ∧ FnOk P w K mg base (L2.CX P w) (k + 1) f fd ps (spF mg K M' x ps.length) ∧ (∀ sls, M'.call x sls ≠ .stuck → sls.length = ps.length) ∧
    (∀ m ds, M'.dfl x m = some ds → ∃ us vs, L2.Binds K fd ps us ∧ Vals vs us ∧ ∀ G, IsL K G vs ds) ∧ ∀ n ks pl dfs, M'.kwp x n ks = some (pl, dfs) → KwOk K fd ps n ks pl dfs := by
  obtain ⟨f, fd, ps, nm, qual, params, dvs, kws, h1, h2, h3, h4, h5, h6⟩ := ok.fn x F hx
  have hc' : ∀ sls, M'.call x sls = callF M n F sls := fun sls => by rw [hc, hx]
  refine ⟨f, fd, ps, h1, h2.kp, fn_ok' h2 h3 h4 md hc', fun sls q => ?_, fun m ds q => h5 m ds (by rw [← hd]; exact q), fun n ks pl dfs q => h6 n ks pl dfs (by rw [← hk]; exact q)⟩
  rw [hc'] at q
  rw [h4]
  exact callF_len q
theorem md_ok (ok : TabOk T P w K mg base) : ∀ k, MdOk (mdl T n k) k P w K mg base
  | 0 => ⟨fun _ _ h => (by cases h), fun _ h => (by cases h), fun _ _ h => (by cases h), fun _ h => (by cases h), fun _ h => (by cases h), ok.isx, ok.fld⟩
  | 1 => by
    have md := md_ok ok 0
    have inv : ∀ {x : Str} {g : Gk}, (match T.fns x with | some _ => Gk.fn | none => noEx (noFn (T.oth x))) = g → g ≠ .no → (∃ F, T.fns x = some F ∧ g = .fn) ∨ (T.fns x = none ∧ T.oth x = g ∧ g ≠ .fn ∧ g ≠ .ex) := fun {x g} h hn => by
      cases q : T.fns x with
      | some F => rw [q] at h; exact .inl ⟨F, rfl, h.symm⟩
      | none =>
        rw [q] at h
        refine .inr ⟨rfl, ?_⟩
        cases q2 : T.oth x <;> rw [q2] at h <;> simp only [noFn, noEx] at h <;> subst h <;> first | exact absurd rfl hn | exact ⟨rfl, (fun z => by cases z), (fun z => by cases z)⟩
    refine ⟨fun x d h => ?_, fun x h => ?_, fun x id h => ?_, fun x h => ?_, fun x h => ?_, ok.isx, ok.fld⟩
    · rcases inv h (fun z => by cases z) with ⟨_, _, z⟩ | ⟨_, z, _⟩
      · cases z
      · exact ok.con x d z
    · rcases inv h (fun z => by cases z) with ⟨_, _, z⟩ | ⟨z0, z, _⟩
      · cases z
      · exact ok.free x z0 z
    · rcases inv h (fun z => by cases z) with ⟨_, _, z⟩ | ⟨_, z, _⟩
      · cases z
      · exact ok.bfn x id z
    · rcases inv h (fun z => by cases z) with ⟨F, hF, _⟩ | ⟨_, _, z, _⟩
      · exact md_fn (M' := mdl T n 1) ok md (fun _ _ => rfl) rfl rfl hF
      · exact absurd rfl z
    · rcases inv h (fun z => by cases z) with ⟨_, _, z⟩ | ⟨_, _, _, z⟩
      · cases z
      · exact absurd rfl z
  | c + 2 => by
    have md := md_ok ok (c + 1)
    have inv : ∀ {x : Str} {g : Gk}, (match T.fns x with | some _ => Gk.fn | none => noFn (T.oth x)) = g → g ≠ .no → (∃ F, T.fns x = some F ∧ g = .fn) ∨ (T.fns x = none ∧ T.oth x = g ∧ g ≠ .fn) := fun {x g} h hn => by
      cases q : T.fns x with
      | some F => rw [q] at h; exact .inl ⟨F, rfl, h.symm⟩
      | none =>
        rw [q] at h
        refine .inr ⟨rfl, ?_⟩
        cases q2 : T.oth x <;> rw [q2] at h <;> simp only [noFn] at h <;> subst h <;> first | exact absurd rfl hn | exact ⟨rfl, (fun z => by cases z)⟩
    refine ⟨fun x d h => ?_, fun x h => ?_, fun x id h => ?_, fun x h => ?_, fun x h => ?_, ok.isx, ok.fld⟩
    · rcases inv h (fun z => by cases z) with ⟨_, _, z⟩ | ⟨_, z, _⟩
      · cases z
      · exact ok.con x d z
    · rcases inv h (fun z => by cases z) with ⟨_, _, z⟩ | ⟨z0, z, _⟩
      · cases z
      · exact ok.free x z0 z
    · rcases inv h (fun z => by cases z) with ⟨_, _, z⟩ | ⟨_, z, _⟩
      · cases z
      · exact ok.bfn x id z
    · rcases inv h (fun z => by cases z) with ⟨F, hF, _⟩ | ⟨_, _, z⟩
      · exact md_fn (M' := mdl T n (c + 2)) ok md (fun _ _ => rfl) rfl rfl hF
      · exact absurd rfl z
    · rcases inv h (fun z => by cases z) with ⟨_, _, z⟩ | ⟨_, z, _⟩
      · cases z
      · obtain ⟨C, h1, h2⟩ := ok.ex x z
        exact ⟨C, h1, mkx_mono (Nat.le_add_left 2 c) (h2 (mdl T n (c + 2)) rfl)⟩
end
end VE
end

section
set_option Elab.async false
set_option linter.all false
set_option maxRecDepth 100000
set_option maxHeartbeats 1000000
/-! VE17: the inits of own exceptions. -/
namespace VE
open PySem PySem.Spec L2 PySem.HandSPX

/-- self.f = p, .. : the fields and the parameters' places -/
def initB (N : List Str) (sc : Scope) : List Stmt → Option (List (Str × Nat))
  | [] => some []
  | .Pass _ :: r => initB N sc r
  | .Expr (.Constant (.str _) _ _) _ :: r => initB N sc r
  | .Assign [.Attribute (.Name s _) f _] (.Name x _) _ :: r => (match ixN? N s, ixN? N x with
    | some 0, some (i + 1) => if visK sc s && visK sc x then (initB N sc r).map ((f, i + 1) :: ·) else none
    | _, _ => none)
  | _ => none
/-- what the exception's dict holds behind it, the latest first -/
def fvs (σ : L2.St) (fs : List (Str × Nat)) : List (Str × V) := (fs.map fun p => (p.1, ((σ[p.2]?).getD none).getD .non)).reverse
section
variable {X : Cx} {N : List Str} {sc : Scope} {C a : Addr} {σ : L2.St}
structure InOk (X : Cx) (N : List Str) (sc : Scope) : Prop where
  nm : X.N = N
  sc : X.env.scope = sc
theorem InOk.var (O : InOk X N sc) {x : Str} {i : Nat} {p : Pos} (hi : ixN? N x = some i) (hv : visK sc x = true) : PE X (.Name x p) (tVar i) := by
  have hv2 : Vis X.env.scope x := by
    rw [O.sc]
    have h2 := (Bool.and_eq_true_iff.mp hv).2
    split at h2
    · rename_i q; exact .inl q
    · rename_i q; exact .inr (.inl q)
    · rename_i q; exact .inr (.inr q)
    · cases h2
  exact pe_var (by rw [O.nm]; exact ixN_get hi) hv2 (nameOk_dbg (vis_name hv)) (nameOk_cd (vis_name hv))
theorem init_inv {s : Stmt} {r : List Stmt} {fs : List (Str × Nat)} (h : initB N sc (s :: r) = some fs) : (∃ t, t = tNext ∧ (∀ X : Cx, PS X s t) ∧ initB N sc r = some fs) ∨
    ∃ (so x f : Str) (p1 p2 p3 p4 : Pos) (i : Nat) (fs' : List (Str × Nat)), s = .Assign [.Attribute (.Name so p1) f p2] (.Name x p3) p4 ∧ ixN? N so = some 0 ∧ ixN? N x = some (i + 1) ∧ visK sc so = true ∧ visK sc x = true ∧ initB N sc r = some fs' ∧ fs = (f, i + 1) :: fs' := by
  unfold initB at h
  split at h
  · rename_i e; cases e
  · rename_i e; cases e; exact .inl ⟨_, rfl, fun X => ps_pass, h⟩
  · rename_i e; cases e; exact .inl ⟨_, rfl, fun X => ps_doc, h⟩
  · rename_i so p1 f p2 x p3 p4 r' e
    cases e
    split at h
    · rename_i i h1 h2
      split at h
      · rename_i c
        obtain ⟨c1, c2⟩ := Bool.and_eq_true_iff.mp c
        obtain ⟨fs', h3, rfl⟩ := map_some h
        exact .inr ⟨so, x, f, p1, p2, p3, p4, i, fs', rfl, h1, h2, c1, c2, h3, rfl⟩
      · cases h
    · cases h
  · cases h
variable (O : InOk X N sc) (T : OexC X.K C)
include O T
theorem init_b {d : Addr} (hself : σ[0]? = some (some (.ref a))) (hda : d ≠ a) {D' : Ends} : ∀ {st : List Stmt} {fs : List (Str × Nat)} {g0 : List (Str × V)} {H : Hp}, initB N sc st = some fs → (∀ p ∈ fs, PySem.W.findIn X.K (.ref C) p.1 = some none) →
    (∀ p ∈ fs, ∃ v, σ[p.2]? = some (some v)) → H a = some (exo a C (some d)) → H d = some (exd d g0) → g0.length + fs.length ≤ 900 →
    (∀ H2, H2 a = some (exo a C (some d)) → H2 d = some (exd d (fvs σ fs ++ g0)) → (∀ b, b ≠ a → b ≠ d → H2 b = H b) → D'.nx σ H2) → WSs X st D' σ H
  | [], fs, g0, H, hb, _, _, ha, hd, _, q => by
    cases hb
    exact WSs.mk pss_nil (q H ha hd fun _ _ _ => rfl)
  | s :: r, fs, g0, H, hb, hno, hv, ha, hd, hl, q => by
    rcases init_inv hb with ⟨t, rfl, ht, h1⟩ | ⟨so, x, f, p1, p2, p3, p4, i, fs', rfl, h1, h2, h3, h4, h5, rfl⟩
    · exact WSs.mk (pss_cons (ht X) pss_wss) (init_b hself hda h1 hno hv ha hd hl q)
    · obtain ⟨v, ev⟩ := hv (f, i + 1) List.mem_cons_self
      refine WSs.mk (pss_cons (ps_ost (O.var h1 h3) (O.var h2 h4)) pss_wss) ?_
      refine ⟨v, ev, _, hself, a, C, rfl, T, hno (f, i + 1) List.mem_cons_self, .inr ⟨d, g0, ha, hd, by simp only [List.length_cons] at hl; omega, ?_⟩⟩
      refine init_b hself hda (g0 := (f, v) :: g0) h5 (fun p hp => hno p (List.mem_cons_of_mem _ hp)) (fun p hp => hv p (List.mem_cons_of_mem _ hp)) (by rw [upd_ne (Ne.symm hda)]; exact ha) upd_same (by simp only [List.length_cons] at hl ⊢; omega) fun H2 z1 z2 z3 => ?_
      refine q H2 z1 ?_ fun b b1 b2 => ?_
      · have e : fvs σ ((f, i + 1) :: fs') ++ g0 = fvs σ fs' ++ (f, v) :: g0 := by
          unfold fvs
          have ev' : ((σ[i + 1]?).getD none).getD .non = v := by
            have : σ[i + 1]? = some (some v) := ev
            rw [this]
            rfl
          simp [ev']
        rw [e]
        exact z2
      · rw [z3 b b1 b2, upd_ne b2]
theorem init_a (hself : σ[0]? = some (some (.ref a))) {D' : Ends} : ∀ {st : List Stmt} {fs : List (Str × Nat)} {H : Hp}, initB N sc st = some fs → (∀ p ∈ fs, PySem.W.findIn X.K (.ref C) p.1 = some none) →
    (∀ p ∈ fs, ∃ v, σ[p.2]? = some (some v)) → H a = some (exo a C none) → fs ≠ [] → fs.length ≤ 900 →
    (∀ d H2, H d = none → d ≠ a → H2 a = some (exo a C (some d)) → H2 d = some (exd d (fvs σ fs)) → (∀ b, b ≠ a → b ≠ d → H2 b = H b) → D'.nx σ H2) → WSs X st D' σ H
  | [], fs, H, hb, _, _, _, hn, _, q => by
    cases hb
    exact absurd rfl hn
  | s :: r, fs, H, hb, hno, hv, ha, hn, hl, q => by
    rcases init_inv hb with ⟨t, rfl, ht, h1⟩ | ⟨so, x, f, p1, p2, p3, p4, i, fs', rfl, h1, h2, h3, h4, h5, rfl⟩
    · exact WSs.mk (pss_cons (ht X) pss_wss) (init_a hself h1 hno hv ha hn hl q)
    · obtain ⟨v, ev⟩ := hv (f, i + 1) List.mem_cons_self
      refine WSs.mk (pss_cons (ps_ost (O.var h1 h3) (O.var h2 h4)) pss_wss) ?_
      refine ⟨v, ev, _, hself, a, C, rfl, T, hno (f, i + 1) List.mem_cons_self, .inl ⟨ha, fun d hd hda => ?_⟩⟩
      refine init_b O T hself hda (g0 := [(f, v)]) h5 (fun p hp => hno p (List.mem_cons_of_mem _ hp)) (fun p hp => hv p (List.mem_cons_of_mem _ hp)) upd_same (by rw [upd_ne hda]; exact upd_same) (by simp only [List.length_cons, List.length_nil] at hl ⊢; omega) fun H2 z1 z2 z3 => ?_
      refine q d H2 hd hda z1 ?_ fun b b1 b2 => ?_
      · have e : fvs σ ((f, i + 1) :: fs') = fvs σ fs' ++ [(f, v)] := by
          unfold fvs
          have ev' : ((σ[i + 1]?).getD none).getD .non = v := by
            have : σ[i + 1]? = some (some v) := ev
            rw [this]
            rfl
          simp [ev']
        rw [e]
        exact z2
      · rw [z3 b b1 b2, upd_ne b1, upd_ne b2]
end
end VE
end

section
set_option Elab.async false
set_option linter.all false
set_option maxRecDepth 100000
set_option maxHeartbeats 1000000
/-! VE18: own exceptions; what is read of the written part. -/
namespace VE
open PySem PySem.Spec L2 PySem.HandSPX

/-- an own exception's fields, by the arguments -/
def mkxOf (np : Nat) (fs : List (Str × Nat)) (ds : List D) : Option (List (Str × D)) :=
  if decide (ds.length + 1 = np) && decide (ds.length ≤ 1000) then some ((fs.map fun p => (p.1, (ds[p.2 - 1]?).getD .non)).reverse) else none
section
variable {K : PySem.W.Frag} {G : Hp}
theorem fsL_app : ∀ {vs ws : List (Str × V)} {ds es : List (Str × D)}, FsL K G vs ds → FsL K G ws es → FsL K G (vs ++ ws) (ds ++ es)
  | _, _, _, _, .nil, s => s
  | _, _, _, _, .cons h r, s => .cons h (fsL_app r s)
theorem fsL_rev : ∀ {vs : List (Str × V)} {ds : List (Str × D)}, FsL K G vs ds → FsL K G vs.reverse ds.reverse
  | _, _, .nil => .nil
  | _, _, .cons h r => by
    rw [List.reverse_cons, List.reverse_cons]
    exact fsL_app (fsL_rev r) (.cons h .nil)
theorem start_get {N : List Str} {vs : List V} {i : Nat} {v : V} (h : vs[i]? = some v) : (L2.start N vs)[i]? = some (some v) := by
  unfold L2.start
  rw [List.getElem?_append_left (by rw [List.length_map]; exact lt_get h), List.getElem?_map, h]
  rfl
theorem fvs_is {N : List Str} {u : V} {ws : List V} {ds : List D} (il : IsL K G ws ds) : ∀ {fs : List (Str × Nat)}, (∀ p ∈ fs, 0 < p.2 ∧ p.2 < ws.length + 1) →
    FsL K G (fs.map fun p => (p.1, (((L2.start N (u :: ws))[p.2]?).getD none).getD .non)) (fs.map fun p => (p.1, (ds[p.2 - 1]?).getD .non))
  | [], _ => .nil
  | (f, i) :: fs, h => by
    obtain ⟨h1, h2⟩ := h (f, i) List.mem_cons_self
    obtain ⟨j, rfl⟩ : ∃ j, i = j + 1 := ⟨i - 1, by simp only at h1; omega⟩
    have hj : j < ws.length := Nat.lt_of_succ_lt_succ h2
    obtain ⟨v, ev⟩ : ∃ v, ws[j]? = some v := ⟨_, List.getElem?_eq_getElem hj⟩
    obtain ⟨d, ed, i1⟩ := il.getV ev
    have e1 : (((L2.start N (u :: ws))[j + 1]?).getD none).getD V.non = v := by
      rw [start_get (vs := u :: ws) (i := j + 1) (v := v) ev]
      rfl
    have e2 : (ds[j + 1 - 1]?).getD D.non = d := by
      rw [Nat.add_sub_cancel, ed]
      rfl
    show FsL K G ((f, _) :: _) ((f, _) :: _)
    rw [e1, e2]
    exact .cons i1 (fvs_is il fun p hp => h p (List.mem_cons_of_mem _ hp))
end
section
variable {M : Mdl} {P : Program} {w : World} {K : PySem.W.Frag} {mg : Str → Option Value} {base : Heap} {x nm qual : Str} {params : Arguments} {body : List Stmt} {sc : Scope} {N ps : List Str} {fs : List (Str × Nat)} {C fI : Addr} {fd : FuncData}
def spInit (K : PySem.W.Frag) (C : Addr) (N : List Str) (np : Nat) (fs : List (Str × Nat)) : Sp := fun vs H Q _ => ∃ a ws, vs = .ref a :: ws ∧ vs.length = np ∧ H a = some (exo a C none) ∧
  ∀ d H2, H d = none → d ≠ a → H2 a = some (exo a C (some d)) → H2 d = some (exd d (fvs (L2.start N vs) fs)) → (∀ b, b ≠ a → b ≠ d → H2 b = H b) → Q .non H2
theorem init_fn (F : FunD K nm qual params body sc [] [] fI fd) (S : FnScope N ps sc) (hb : initB N sc body = some fs) (hn : fs ≠ []) (hl : fs.length ≤ 900) (hp : ∀ p ∈ fs, 0 < p.2 ∧ p.2 < ps.length) (T : OexC K C) (hno : ∀ p ∈ fs, PySem.W.findIn K (.ref C) p.1 = some none) :
    FnOk P w K mg base (L2.CX P w) 1 fI fd ps (spInit K C N ps.length fs) := by
  refine F.ok S (fun vs H Q E ⟨_, _, _, h, _⟩ => h) fun cdv A outer s H vs Q E hr ⟨a, ws, ev, hlen, ha, q⟩ => ⟨_, pss_wss, ?_⟩
  subst ev
  refine init_a (X := cxOf (L2.CX P w) P w K mg base N qual sc fI cdv A outer s H E) ⟨rfl, rfl⟩ T (start_get rfl) hb hno (fun p hp' => ?_) ha hn hl fun d H2 h1 h2 h3 h4 h5 => q d H2 h1 h2 h3 h4 h5
  obtain ⟨_, h2⟩ := hp p hp'
  rw [← hlen] at h2
  exact ⟨_, start_get (List.getElem?_eq_getElem h2)⟩
theorem mkx_ok (F : FunD K nm qual params body sc [] [] fI fd) (S : FnScope N ps sc) (hb : initB N sc body = some fs) (hn : fs ≠ []) (hl : fs.length ≤ 900) (hp : ∀ p ∈ fs, 0 < p.2 ∧ p.2 < ps.length) (T : OexC K C) (hno : ∀ p ∈ fs, PySem.W.findIn K (.ref C) p.1 = some none)
    (iC : PySem.W.findIn K (.ref C) "__init__" = some (some (.ref fI))) (tI : PySem.W.typeIn K (.ref fI) = some (.type "function")) (hB : L2.Binds K fd ps []) (hm : ∀ ds, M.mkx x ds = mkxOf ps.length fs ds) : MkX M 2 P w K mg base x C := by
  refine ⟨fI, fd, ps, _, 1, T, iC, tI, init_fn F S hb hn hl hp T hno, hB, Nat.le_refl 2, fun ds fsD e => ?_⟩
  rw [hm] at e
  unfold mkxOf at e
  split at e
  · rename_i c
    cases e
    simp only [Bool.and_eq_true, decide_eq_true_eq] at c
    refine ⟨c.2, fun G H vs a Q E il ha q => ?_⟩
    have hlen : (V.ref a :: vs).length = ps.length := by rw [List.length_cons, il.length]; exact c.1
    refine ⟨a, vs, rfl, hlen, ha, fun d H2 h1 h2 h3 h4 h5 => q d _ H2 h1 h2 ?_ h3 h4 h5⟩
    unfold fvs
    refine fsL_rev (fvs_is il fun p hp' => ?_)
    obtain ⟨z1, z2⟩ := hp p hp'
    rw [← hlen] at z2
    exact ⟨z1, z2⟩
  · cases e
end
/-! ### what K tells -/
/-- an own class over ValueError, made by ValueError's __new__ -/
def oexB (K : PySem.W.Frag) (C : Addr) : Bool := (match K.lookup C with
  | some ⟨.type "type", _, .cls cd, sl⟩ => (match cd.mro, sl.toList with
    | .ref C' :: bm, [_, _, _, _, some (.builtin n), _] => C' == C && n == "ValueError.__new__" && !cd.hasDel && cd.hasDict && refsVE bm
    | _, _ => false)
  | _ => false) && decide (PySem.W.findIn K (.ref C) "__setattr__" = some (some (.builtin "object.__setattr__"))) && decide (PySem.W.subIn K (.ref C) (.type "BaseException") = some true) && decide (PySem.W.typeIn K (.ref C) = some (.type "type")) && PySem.W.keepIn K (.ref C)
theorem oexB_ok {K : PySem.W.Frag} {C : Addr} (h : oexB K C = true) : OexC K C := by
  unfold oexB at h
  simp only [Bool.and_eq_true, decide_eq_true_eq] at h
  obtain ⟨⟨⟨⟨q, h1⟩, h2⟩, h3⟩, h4⟩ := h
  refine ⟨?_, h1, h2, h3, h4⟩
  split at q
  · rename_i dd cd sl ho
    split at q
    · rename_i C' bm k0 k1 k2 k3 n k5 hm hs
      simp only [Bool.and_eq_true, beq_iff_eq, Bool.not_eq_true'] at q
      obtain ⟨⟨⟨⟨rfl, rfl⟩, hdel⟩, hdct⟩, ht⟩ := q
      obtain ⟨nm, bs, mro, ns, qn, hd, sn, sub, ab, col, del⟩ := cd
      dsimp only at hm hdel hdct
      subst hm hdel hdct
      have hsl : sl = #[k0, k1, k2, k3, some (.builtin "ValueError.__new__"), k5] := by
        obtain ⟨l⟩ := sl
        simp only at hs
        rw [hs]
      subst hsl
      exact ⟨nm, qn, ns, bs, bm, sn, sub, ab, col, dd, k0, k1, k2, k3, k5, ho, ht⟩
    · cases q
  · cases q
/-- a value of the written part is this datum -/
def vOf : Value → V
  | .none => .non
  | .bool b => .bl b
  | .int i _ => .int i
  | .str s _ => .str s
  | .ref a => .ref a
  | _ => .non
mutual
def isB (K : PySem.W.Frag) : Value → D → Bool
  | .none, .non => true
  | .bool b, .bl c => b == c
  | .int i _, .int j => decide (i = j)
  | .str s _, .str t => decide (s = t)
  | .ref a, .tup ds => (match K.lookup a with
    | some ⟨.type c, _, .seq its _, _⟩ => decide (c = "tuple") && decide (its.size ≤ sizeLine) && isBs K its.toList ds
    | _ => false)
  | .ref a, .scr ds => (match K.lookup a with
    | some ⟨.type c, none, .seq its _, _⟩ => decide (c = "list") && decide (its.size ≤ sizeLine) && isBs K its.toList ds
    | _ => false)
  | _, _ => false
def isBs (K : PySem.W.Frag) : List Value → List D → Bool
  | [], [] => true
  | u :: us, d :: ds => isB K u d && isBs K us ds
  | _, _ => false
end
mutual
theorem isB_ok {K : PySem.W.Frag} {G : Hp} : ∀ {d : D} {u : Value}, isB K u d = true → RelV (vOf u) u ∧ Is K G (vOf u) d
  | .non, u, h => by
    cases u <;> first | exact ⟨rfl, .non⟩ | (unfold isB at h; cases h)
  | .bl b, u, h => by
    cases u with
    | bool c =>
      unfold isB at h
      have e : c = b := by simpa using h
      subst e
      exact ⟨rfl, .bl _⟩
    | _ => unfold isB at h; cases h
  | .int i, u, h => by
    cases u with
    | int c t =>
      unfold isB at h
      have e : c = i := by simpa using h
      subst e
      exact ⟨⟨t, rfl⟩, .int _⟩
    | _ => unfold isB at h; cases h
  | .str i, u, h => by
    cases u with
    | str c t =>
      unfold isB at h
      have e : c = i := by simpa using h
      subst e
      exact ⟨⟨t, rfl⟩, .str _⟩
    | _ => unfold isB at h; cases h
  | .tup ds, u, h => by
    cases u with
    | ref a =>
      unfold isB at h
      split at h
      · rename_i c od its n sl q
        simp only [Bool.and_eq_true, decide_eq_true_eq] at h
        obtain ⟨⟨rfl, h2⟩, h3⟩ := h
        obtain ⟨r, il⟩ := isBs_ok (G := G) h3
        exact ⟨rfl, .tup (.inr ⟨_, its, n, q, rfl, rfl, h2, r⟩) il⟩
      · cases h
    | _ => unfold isB at h; cases h
  | .scr ds, u, h => by
    cases u with
    | ref a =>
      unfold isB at h
      split at h
      · rename_i c its n sl q
        simp only [Bool.and_eq_true, decide_eq_true_eq] at h
        obtain ⟨⟨rfl, h2⟩, h3⟩ := h
        obtain ⟨r, il⟩ := isBs_ok (G := G) h3
        exact ⟨rfl, .scr (.inr ⟨_, its, n, q, rfl, rfl, rfl, h2, r⟩) il⟩
      · cases h
    | _ => unfold isB at h; cases h
  | .lst ds, u, h => by cases u <;> (unfold isB at h; cases h)
  | .obj _ _, u, h => by cases u <;> (unfold isB at h; cases h)
theorem isBs_ok {K : PySem.W.Frag} {G : Hp} : ∀ {ds : List D} {us : List Value}, isBs K us ds = true → Vals (us.map vOf) us ∧ IsL K G (us.map vOf) ds
  | [], [], _ => ⟨.nil, .nil⟩
  | [], _ :: _, h => by unfold isBs at h; cases h
  | _ :: _, [], h => by unfold isBs at h; cases h
  | d :: ds, u :: us, h => by
    unfold isBs at h
    obtain ⟨h1, h2⟩ := Bool.and_eq_true_iff.mp h
    obtain ⟨r1, i1⟩ := isB_ok (G := G) h1
    obtain ⟨r2, i2⟩ := isBs_ok (G := G) h2
    exact ⟨.cons r1 r2, .cons i1 i2⟩
end
end VE
end

section
set_option Elab.async false
set_option linter.all false
set_option maxRecDepth 100000
set_option maxHeartbeats 1000000
/-! VE19: a program's table, and the end of a law. -/
namespace VE
open PySem PySem.Spec L2 PySem.HandSPX
open C8 (scC fnScope_by)

/-- a def: its name, its parameters, its names, the def, its defaults' data -/
structure Ent where
  x : Str
  ps : List Str
  N : List Str
  d : He.DefD
  dfs : List D
  /-- calls with keywords: so many values, these names, the plan -/
  kws : List (Nat × List Str × List KwSrc) := []
/-- an own exception: its class's name, its init's parameters and names, the init, its fields -/
structure Exn where
  x : Str
  ps : List Str
  N : List Str
  d : He.DefD
  fs : List (Str × Nat)
structure Prg where
  ents : List Ent
  exns : List Exn
  cons : List (Str × D)
  bfns : List (Str × String)
  frees : List Str
  /-- is an error of the first class one of the second -/
  subs : List ((Str × Str) × Bool)
def Ent.fn (e : Ent) : Fn := ⟨e.N, e.ps.length, e.d.scope, e.d.body⟩
def Prg.ent (p : Prg) (x : Str) : Option Ent := p.ents.find? fun e => e.x == x
def Prg.exn (p : Prg) (x : Str) : Option Exn := p.exns.find? fun e => e.x == x
def Prg.tab (p : Prg) : Tab where
  fns := fun x => (p.ent x).map Ent.fn
  oth := fun x => match p.exn x with
    | some _ => .ex
    | none => (match p.cons.lookup x with
      | some d => .con d
      | none => (match p.bfns.lookup x with
        | some id => .bfn id
        | none => if p.frees.contains x then .free else .no))
  dfl := fun x m => (p.ent x).bind fun e => if decide (e.ps.length ≤ m + e.dfs.length) && decide (m ≤ e.ps.length) then some (e.dfs.drop (m + e.dfs.length - e.ps.length)) else none
  mkx := fun x ds => (p.exn x).bind fun e => mkxOf e.ps.length e.fs ds
  isx := fun x y => (p.subs.find? fun q => q.1.1 == x && q.1.2 == y).map (·.2)
  kwp := fun x n ks => (p.ent x).bind fun e => (e.kws.find? fun q => q.1 == n && q.2.1 == ks).map fun q => (q.2.2, e.dfs)
  fok := fun x f => (p.exn x).any fun e => e.fs.any fun q => q.1 == f
def Prg.fa (p : Prg) : List He.Fa := p.ents.map (fun e => .glo e.x) ++ (p.exns.map (fun e => .glo e.x) ++ p.frees.map .free)
def Prg.fn (p : Prg) : List He.DefD := p.ents.map (·.d) ++ p.exns.map (·.d)
def dvB (K : PySem.W.Frag) : He.Dv → D → Bool
  | .non, .non => true
  | .bl b, .bl c => b == c
  | .int i, .int j => decide (i = j)
  | .str s, .str t => decide (s = t)
  | .glo x, d => isB K (.ref (He.ga K x)) d
  | .adr p, d => isB K (.ref (p K)) d
  | _, _ => false
def dvBs (K : PySem.W.Frag) : List He.Dv → List D → Bool
  | [], [] => true
  | v :: vs, d :: ds => dvB K v d && dvBs K vs ds
  | _, _ => false
def exnB (K : PySem.W.Frag) (e : Exn) : Bool := xfB K (He.ga K e.x) && oexB K (He.ga K e.x) && (e.fs.all fun p => decide (PySem.W.findIn K (.ref (He.ga K e.x)) p.1 = some none)) && decide (PySem.W.findIn K (.ref (He.ga K e.x)) "__init__" = some (some (.ref (He.fAd K e.d.at_)))) && decide (PySem.W.typeIn K (.ref (He.fAd K e.d.at_)) = some (.type "function"))
def Prg.exB (p : Prg) (K : PySem.W.Frag) : Bool := (p.ents.all fun e => dvBs K e.d.dfl e.dfs) && (p.exns.all (exnB K)) && (p.cons.all fun q => match PySem.W.nsIn K mainGlobals q.1 with
    | some (some u) => isB K u q.2
    | _ => false) && (p.bfns.all fun q => decide (PySem.W.nsIn K mainGlobals q.1 = some (some (.builtin q.2)))) && (p.subs.all fun q => decide (PySem.W.nsIn K mainGlobals q.1.1 = some (some (.ref (He.ga K q.1.1)))) && decide (PySem.W.nsIn K mainGlobals q.1.2 = some (some (.ref (He.ga K q.1.2)))) && decide (PySem.W.exmOne K (.ref (He.ga K q.1.1)) (.ref (He.ga K q.1.2)) = some q.2))
/-- what is seen of the tables alone -/
def entC (e : Ent) : Bool := scC e.N e.ps e.d.scope && decide (e.d.at_ = (e.x, none)) && e.d.kwd.isEmpty
def exnC (e : Exn) : Bool := scC e.N e.ps e.d.scope && e.d.kwd.isEmpty && e.d.dfl.isEmpty && decide (initB e.N e.d.scope e.d.body = some e.fs) && !e.fs.isEmpty && decide (e.fs.length ≤ 900) && e.fs.all fun p => decide (0 < p.2) && decide (p.2 < e.ps.length)
/-- how a def's arguments are bound -/
def BindP (d : He.DefD) (ps : List Str) (nd : Nat) : Prop := ∀ (K : PySem.W.Frag) (dvs : List V) (f : Addr) (fd : FuncData), FunD K d.name d.qual d.params d.body d.scope dvs [] f fd → dvs.length = nd → ∀ j, j ≤ nd → ∃ us, Vals (dvs.drop j) us ∧ L2.Binds K fd ps us
/-- how a call with keywords is bound -/
def BindK (d : He.DefD) (ps : List Str) (nd : Nat) (kws : List (Nat × List Str × List KwSrc)) : Prop := ∀ (K : PySem.W.Frag) (dvs : List V) (f : Addr) (fd : FuncData), FunD K d.name d.qual d.params d.body d.scope dvs [] f fd → dvs.length = nd →
  ∀ q ∈ kws, ∃ g, KBn K fd ps q.1 q.2.1 g fun vs zs => planL .non vs dvs zs q.2.2
theorem paired_getD : ∀ {vs : List V} {us : List Value} {i : Nat}, Vals vs us → RelV ((vs[i]?).getD .non) ((us[i]?).getD .none)
  | _, _, _, .nil => rfl
  | _, _, 0, .cons h _ => h
  | _, _, i + 1, .cons _ r => by
    simpa using paired_getD (i := i) r
theorem plan_rel {vs ds zs : List V} {us its ws : List Value} (r1 : Vals vs us) (r2 : Vals ds its) (r3 : Vals zs ws) : ∀ pl : List KwSrc, Vals (planL .non vs ds zs pl) (planL .none us its ws pl)
  | [] => .nil
  | .pos i :: pl => .cons (paired_getD r1) (plan_rel r1 r2 r3 pl)
  | .dfl i :: pl => .cons (paired_getD r2) (plan_rel r1 r2 r3 pl)
  | .kw i :: pl => .cons (paired_getD r3) (plan_rel r1 r2 r3 pl)
theorem isL_getD {K : PySem.W.Frag} {G : Hp} {i : Nat} : ∀ {vs : List V} {ds : List D}, IsL K G vs ds → Is K G ((vs[i]?).getD .non) ((ds[i]?).getD .non) := fun {vs ds} il => by
  cases q : ds[i]? with
  | some d =>
    obtain ⟨v, e, h⟩ := il.get q
    rw [e]
    exact h
  | none =>
    cases q2 : vs[i]? with
    | some v =>
      obtain ⟨d, e, _⟩ := il.getV q2
      rw [q] at e
      cases e
    | none => exact .non
theorem plan_is {K : PySem.W.Frag} {G : Hp} {vs dv zs : List V} {ds dd es : List D} (r1 : IsL K G vs ds) (r2 : IsL K G dv dd) (r3 : IsL K G zs es) : ∀ pl : List KwSrc, IsL K G (planL .non vs dv zs pl) (planL .non ds dd es pl)
  | [] => .nil
  | .pos i :: pl => .cons (isL_getD r1) (plan_is r1 r2 r3 pl)
  | .dfl i :: pl => .cons (isL_getD r2) (plan_is r1 r2 r3 pl)
  | .kw i :: pl => .cons (isL_getD r3) (plan_is r1 r2 r3 pl)
theorem kbind1 {K : PySem.W.Frag} {x qual : Str} {params : Arguments} {body : List Stmt} {scope : Scope} {dvs : List V} {f : Addr} {fd : FuncData} {ps : List Str} (F : FunD K x qual params body scope dvs [] f fd) (n : Nat) (ks : List Str) (pl : List KwSrc) (hd : dvs ≠ [])
    (h : ∀ (T : Addr) (kV doc pm : Value) (an : Option Addr) (cdv ct : Value) (us its ws : List Value), us.length = n → its.length = dvs.length → ws.length = ks.length →
      ∃ k, bindArgs (PySem.W.fnOf x qual params body scope (.ref T) kV doc pm an cdv ct) ⟨us, ks.zip ws⟩ = seqItems? (.ref T) >>= k ∧ k (some its.toArray) = pure (ps.zip (planL .none us its ws pl))) : ∃ g, KBn K fd ps n ks g fun vs zs => planL .non vs dvs zs pl := by
  obtain ⟨oc, od, dV, kV, doc, pm, an, cdv, ct, osl, rfl, lk, hcd, hD, hK⟩ := F.ex
  rcases hD with ⟨e, _⟩ | ⟨_, T, o, its, m, rfl, lT, oT, rT⟩
  · exact absurd e hd
  · refine ⟨fun us ws => planL .none us its ws pl, ⟨fun s us ws X l1 l2 => ?_, fun r1 r2 => plan_rel r1 rT r2 pl⟩⟩
    obtain ⟨k, e1, e2⟩ := h T kV doc pm an cdv ct us its ws l1 rT.length.symm l2
    refine BindsTo.of_looks fun M => ?_
    rw [e1]
    exact looks_items X lT oT (PySem.W.Looks.of_pure e2)
theorem kbind0 {K : PySem.W.Frag} {x qual : Str} {params : Arguments} {body : List Stmt} {scope : Scope} {f : Addr} {fd : FuncData} {ps : List Str} (F : FunD K x qual params body scope [] [] f fd) (n : Nat) (ks : List Str) (pl : List KwSrc)
    (h : ∀ (kV doc pm : Value) (an : Option Addr) (cdv ct : Value) (us ws : List Value), us.length = n → ws.length = ks.length →
      bindArgs (PySem.W.fnOf x qual params body scope .none kV doc pm an cdv ct) ⟨us, ks.zip ws⟩ = pure (ps.zip (planL .none us [] ws pl))) : ∃ g, KBn K fd ps n ks g fun vs zs => planL .non vs [] zs pl := by
  obtain ⟨oc, od, dV, kV, doc, pm, an, cdv, ct, osl, rfl, lk, hcd, hD, hK⟩ := F.ex
  rcases hD with ⟨_, rfl⟩ | ⟨e, _⟩
  · exact ⟨fun us ws => planL .none us [] ws pl, ⟨fun s us ws X l1 l2 => .of_eq (h kV doc pm an cdv ct us ws l1 l2), fun r1 r2 => plan_rel r1 .nil r2 pl⟩⟩
  · exact absurd rfl e
theorem dvB_ok {K : PySem.W.Frag} {G : Hp} : ∀ {v : He.Dv} {d : D}, dvB K v d = true → Is K G (He.Dv.v K v) d := fun {v d} h => by
  cases v with
  | non => cases d <;> first | exact .non | cases h
  | bl b =>
    cases d with
    | bl c =>
      have e : b = c := by simpa [dvB] using h
      subst e
      exact .bl _
    | _ => cases h
  | int b =>
    cases d with
    | int c =>
      have e : b = c := by simpa [dvB] using h
      subst e
      exact .int _
    | _ => cases h
  | str b =>
    cases d with
    | str c =>
      have e : b = c := by simpa [dvB] using h
      subst e
      exact .str _
    | _ => cases h
  | glo x => exact (isB_ok (G := G) (u := .ref (He.ga K x)) (by cases d <;> exact h)).2
  | adr p => exact (isB_ok (G := G) (u := .ref (p K)) (by cases d <;> exact h)).2
  | byt b => cases d <;> cases h
  | flt b => cases d <;> cases h
  | ty b => cases d <;> cases h
theorem dvBs_ok {K : PySem.W.Frag} {G : Hp} : ∀ {vs : List He.Dv} {ds : List D}, dvBs K vs ds = true → IsL K G (vs.map (He.Dv.v K)) ds
  | [], [], _ => .nil
  | [], _ :: _, h => by cases h
  | _ :: _, [], h => by cases h
  | v :: vs, d :: ds, h => by
    obtain ⟨h1, h2⟩ := Bool.and_eq_true_iff.mp (show (dvB K v d && dvBs K vs ds) = true from h)
    exact .cons (dvB_ok h1) (dvBs_ok h2)
theorem find_mem {α : Type} {p : α → Bool} {a : α} {l : List α} (h : l.find? p = some a) : a ∈ l ∧ p a = true := ⟨List.mem_of_find?_eq_some h, List.find?_some h⟩
theorem lookup_mem' {β : Type} {x : Str} {b : β} : ∀ {l : List (Str × β)}, l.lookup x = some b → (x, b) ∈ l
  | [], h => by cases h
  | (y, c) :: r, h => by
    rw [List.lookup_cons] at h
    cases q : x == y with
    | true =>
      rw [q] at h
      rw [beq_iff_eq.mp q, Option.some.inj h]
      exact List.mem_cons_self
    | false =>
      rw [q] at h
      exact List.mem_cons_of_mem _ (lookup_mem' h)
section
variable {p : Prg} {P : Program} {w : World} {K : PySem.W.Frag} {mg : Str → Option Value} {base h : Heap}
theorem tab_ok (X : K.In h) (G : h.Ns mainGlobals mg) (c : He.SaysD p.fa p.fn K) (ex : p.exB K = true) (ce : p.ents.all entC = true) (cx : p.exns.all exnC = true) (be : ∀ e ∈ p.ents, BindP e.d e.ps e.dfs.length ∧ BindK e.d e.ps e.dfs.length e.kws) (bx : ∀ e ∈ p.exns, BindP e.d e.ps 0) :
    TabOk p.tab P w K mg base := by
  unfold Prg.exB at ex
  simp only [Bool.and_eq_true] at ex
  obtain ⟨⟨⟨⟨x1, x2⟩, x3⟩, x4⟩, x5⟩ := ex
  have gloE : ∀ e ∈ p.ents, mg e.x = some (.ref (He.ga K e.x)) := fun e he => He.glo_ok X G (c.facts (f := .glo e.x) (List.mem_append_left _ (List.mem_map_of_mem (f := fun e : Ent => He.Fa.glo e.x) he)))
  have gloX : ∀ e ∈ p.exns, mg e.x = some (.ref (He.ga K e.x)) := fun e he => He.glo_ok X G (c.facts (f := .glo e.x) (List.mem_append_right _ (List.mem_append_left _ (List.mem_map_of_mem (f := fun e : Exn => He.Fa.glo e.x) he))))
  have oth : ∀ x, (∀ e, p.exn x = some e → p.tab.oth x = .ex) ∧ (p.exn x = none → (∀ d, p.cons.lookup x = some d → p.tab.oth x = .con d) ∧ (p.cons.lookup x = none → (∀ i, p.bfns.lookup x = some i → p.tab.oth x = .bfn i) ∧ (p.bfns.lookup x = none → p.tab.oth x = if p.frees.contains x then .free else .no))) := fun x =>
    ⟨fun e q => by simp only [Prg.tab, q], fun q => ⟨fun d q2 => by simp only [Prg.tab, q, q2], fun q2 => ⟨fun i q3 => by simp only [Prg.tab, q, q2, q3], fun q3 => by simp only [Prg.tab, q, q2, q3]⟩⟩⟩
  have cases' : ∀ x, (∃ e, p.exn x = some e ∧ p.tab.oth x = .ex) ∨ (∃ d, p.cons.lookup x = some d ∧ p.tab.oth x = .con d) ∨ (∃ i, p.bfns.lookup x = some i ∧ p.tab.oth x = .bfn i) ∨ p.tab.oth x = if p.frees.contains x then .free else .no := fun x => by
    obtain ⟨o1, o2⟩ := oth x
    cases q : p.exn x with
    | some e => exact .inl ⟨e, rfl, o1 e q⟩
    | none =>
      obtain ⟨o3, o4⟩ := o2 q
      cases q2 : p.cons.lookup x with
      | some d => exact .inr (.inl ⟨d, rfl, o3 d q2⟩)
      | none =>
        obtain ⟨o5, o6⟩ := o4 q2
        cases q3 : p.bfns.lookup x with
        | some i => exact .inr (.inr (.inl ⟨i, rfl, o5 i q3⟩))
        | none => exact .inr (.inr (.inr (o6 q3)))
  refine ⟨fun x d hx => ?_, fun x _ hx => ?_, fun x id hx => ?_, fun x F hx => ?_, fun x hx => ?_, fun x y b hb => ?_, fun x f hf => ?_⟩
  · rcases cases' x with ⟨_, _, q⟩ | ⟨d', q0, q⟩ | ⟨_, _, q⟩ | q
    · rw [hx] at q; cases q
    · rw [hx] at q
      cases q
      have z := List.all_eq_true.mp x3 _ (lookup_mem' q0)
      simp only at z
      split at z
      · rename_i u e
        exact ⟨u, vOf u, PySem.W.mg_of X G e, (isB_ok (G := fun _ => none) z).1, fun G' => (isB_ok z).2⟩
      · cases z
    · rw [hx] at q; cases q
    · rw [hx] at q; split at q <;> cases q
  · rcases cases' x with ⟨_, _, q⟩ | ⟨_, _, q⟩ | ⟨_, _, q⟩ | q
    · rw [hx] at q; cases q
    · rw [hx] at q; cases q
    · rw [hx] at q; cases q
    · rw [hx] at q
      split at q
      · rename_i m
        have m' : x ∈ p.frees := by simpa using m
        exact He.free_ok X G (c.facts (f := .free x) (List.mem_append_right _ (List.mem_append_right _ (List.mem_map_of_mem (f := He.Fa.free) m'))))
      · cases q
  · rcases cases' x with ⟨_, _, q⟩ | ⟨_, _, q⟩ | ⟨_, q0, q⟩ | q
    · rw [hx] at q; cases q
    · rw [hx] at q; cases q
    · rw [hx] at q
      cases q
      exact PySem.W.mg_of X G (of_decide_eq_true (List.all_eq_true.mp x4 _ (lookup_mem' q0)))
    · rw [hx] at q; split at q <;> cases q
  · obtain ⟨e, he, rfl⟩ := map_some (show (p.ent x).map Ent.fn = some F from hx)
    obtain ⟨m, ex'⟩ := find_mem (show p.ents.find? (fun e => e.x == x) = some e from he)
    have exx : e.x = x := beq_iff_eq.mp ex'
    have ce' := List.all_eq_true.mp ce e m
    simp only [entC, Bool.and_eq_true, decide_eq_true_eq] at ce'
    obtain ⟨⟨s1, s2⟩, s3⟩ := ce'
    obtain ⟨fd, FD⟩ := c.defs (d := e.d) (List.mem_append_left _ (List.mem_map_of_mem (f := fun e : Ent => e.d) m))
    have ea : He.fAd K e.d.at_ = He.ga K e.x := by rw [s2]; rfl
    rw [ea] at FD
    have ekw : e.d.kws K = [] := by
      have : e.d.kwd = [] := List.isEmpty_iff.mp s3
      unfold He.DefD.kws
      rw [this]
      rfl
    rw [ekw] at FD
    have il : ∀ G', IsL K G' (e.d.dvs K) e.dfs := fun G' => dvBs_ok (List.all_eq_true.mp x1 e m)
    refine ⟨He.ga K e.x, fd, e.ps, e.d.name, e.d.qual, e.d.params, e.d.dvs K, [], by rw [← exx]; exact gloE e m, FD, fnScope_by s1, rfl, fun n ds hd => ?_, fun n ks pl dfs hk => ?_⟩
    have hd' : ((p.ent x).bind fun e => if decide (e.ps.length ≤ n + e.dfs.length) && decide (n ≤ e.ps.length) then some (e.dfs.drop (n + e.dfs.length - e.ps.length)) else none) = some ds := hd
    rw [he] at hd'
    simp only [Option.bind_some] at hd'
    split at hd'
    · rename_i cc
      cases hd'
      simp only [Bool.and_eq_true, decide_eq_true_eq] at cc
      obtain ⟨us, hv, hb⟩ := (be e m).1 K (e.d.dvs K) _ fd FD (il (fun _ => none)).length (n + e.dfs.length - e.ps.length) (by omega)
      exact ⟨us, _, hb, hv, fun G' => (il G').drop _⟩
    · cases hd'
    · have hk' : ((p.ent x).bind fun e => (e.kws.find? fun q => q.1 == n && q.2.1 == ks).map fun q => (q.2.2, e.dfs)) = some (pl, dfs) := hk
      rw [he] at hk'
      obtain ⟨q, hq, eq⟩ := map_some hk'
      cases eq
      obtain ⟨mq, eq2⟩ := find_mem hq
      obtain ⟨q1, q2⟩ := Bool.and_eq_true_iff.mp eq2
      have q1' : q.1 = n := beq_iff_eq.mp q1
      have q2' : q.2.1 = ks := beq_iff_eq.mp q2
      subst q1' q2'
      obtain ⟨g, hb⟩ := (be e m).2 K (e.d.dvs K) _ fd FD (il (fun _ => none)).length q mq
      exact ⟨g, _, hb, fun G' vs zs ds es r1 r2 _ _ => plan_is r1 (il G') r2 _⟩
  · rcases cases' x with ⟨e, he, q⟩ | ⟨_, _, q⟩ | ⟨_, _, q⟩ | q
    · obtain ⟨m, ex'⟩ := find_mem (show p.exns.find? (fun e => e.x == x) = some e from he)
      have exx : e.x = x := beq_iff_eq.mp ex'
      subst exx
      refine ⟨He.ga K e.x, gloX e m, fun M hM => ?_⟩
      have cx' := List.all_eq_true.mp cx e m
      simp only [exnC, Bool.and_eq_true, decide_eq_true_eq, Bool.not_eq_true'] at cx'
      obtain ⟨⟨⟨⟨⟨⟨s1, s2⟩, s3⟩, s4⟩, s5⟩, s6⟩, s7⟩ := cx'
      have xb := List.all_eq_true.mp x2 e m
      simp only [exnB, Bool.and_eq_true, decide_eq_true_eq] at xb
      obtain ⟨⟨⟨⟨b0, b1⟩, b2⟩, b3⟩, b4⟩ := xb
      obtain ⟨fd, FD⟩ := c.defs (d := e.d) (List.mem_append_right _ (List.mem_map_of_mem (f := fun e : Exn => e.d) m))
      have ekw : e.d.kws K = [] := by
        have : e.d.kwd = [] := List.isEmpty_iff.mp s2
        unfold He.DefD.kws
        rw [this]
        rfl
      have edv : e.d.dvs K = [] := by
        have : e.d.dfl = [] := List.isEmpty_iff.mp s3
        unfold He.DefD.dvs
        rw [this]
        rfl
      rw [ekw, edv] at FD
      obtain ⟨us, hv, hb⟩ := bx e m K [] _ fd FD rfl 0 (Nat.le_refl 0)
      cases hv
      refine mkx_ok FD (fnScope_by s1) s4 (fun z => by rw [z] at s5; cases s5) s6 (fun q hq => ?_) (oexB_ok b1) (fun q hq => ?_) b3 b4 hb fun ds => ?_
      · have z := List.all_eq_true.mp s7 q hq
        simpa using z
      · exact of_decide_eq_true (List.all_eq_true.mp b2 q hq)
      · rw [hM]
        show ((p.exn e.x).bind fun e => mkxOf e.ps.length e.fs ds) = _
        rw [he]
        rfl
    · rw [hx] at q; cases q
    · rw [hx] at q; cases q
    · rw [hx] at q; split at q <;> cases q
  · obtain ⟨q, hq, rfl⟩ := map_some (show (p.subs.find? fun q => q.1.1 == x && q.1.2 == y).map (·.2) = some b from hb)
    obtain ⟨m, e⟩ := find_mem hq
    obtain ⟨e1, e2⟩ := Bool.and_eq_true_iff.mp e
    have e1' : q.1.1 = x := beq_iff_eq.mp e1
    have e2' : q.1.2 = y := beq_iff_eq.mp e2
    have z := List.all_eq_true.mp x5 q m
    simp only [Bool.and_eq_true, decide_eq_true_eq] at z
    obtain ⟨⟨z1, z2⟩, z3⟩ := z
    rw [← e1', ← e2']
    exact ⟨_, _, PySem.W.mg_of X G z1, PySem.W.mg_of X G z2, z3⟩
  · have hf' : ((p.exn x).any fun e => e.fs.any fun q => q.1 == f) = true := hf
    cases he : p.exn x with
    | none => rw [he] at hf'; cases hf'
    | some e =>
      rw [he] at hf'
      obtain ⟨m, ex'⟩ := find_mem (show p.exns.find? (fun e => e.x == x) = some e from he)
      have exx : e.x = x := beq_iff_eq.mp ex'
      subst exx
      obtain ⟨q, hq, eq⟩ := List.any_eq_true.mp (show (e.fs.any fun q => q.1 == f) = true from hf')
      have eqf : q.1 = f := beq_iff_eq.mp eq
      have xb := List.all_eq_true.mp x2 e m
      simp only [exnB, Bool.and_eq_true, decide_eq_true_eq] at xb
      obtain ⟨⟨⟨⟨b0, b1⟩, b2⟩, b3⟩, b4⟩ := xb
      refine ⟨_, gloX e m, xfB_ok b0, ?_⟩
      rw [← eqf]
      exact of_decide_eq_true (List.all_eq_true.mp b2 q hq)
/-- the script's ints -/
theorem isL_ints {G : Hp} : ∀ ns : List Int, IsL K G (ns.map V.int) (ns.map D.int)
  | [] => .nil
  | n :: ns => .cons (.int n) (isL_ints ns)
/-- the law's promise, by the evaluator's answer -/
theorem law_sp {M : Mdl} {x : Str} {H : Hp} {a : Addr} {ns : List Int} (hS : SqL K H a (ns.map V.int)) (h : ∃ as, M.call x [.fz (.scr (ns.map D.int))] = .ret (.bl true) false as) : spF mg K M x 1 [.ref a] H (fun v _ => v = .bl true) fun _ _ _ => False := by
  obtain ⟨as, e⟩ := h
  refine ⟨H, [.fz (.scr (ns.map D.int))], rfl, ⟨Same.refl _, rfl, fun i s q => ?_, fun i j b o1 o2 => ?_⟩, ?_⟩
  · match i, q with
    | 0, q =>
      cases q
      exact ⟨.ref a, rfl, .scr hS (isL_ints ns)⟩
    | i + 1, q => simp at q
  · obtain ⟨m, d, z, _⟩ := o1
    match i, z with
    | 0, z => cases z
    | i + 1, z => simp at z
  · rw [e]
    intro v G' H' _ _ hr
    cases (show Is K G' v (.bl true) from hr)
    rfl
theorem cx_no {w : World} {H : Hp} {s : Shared} {e : Value} {s' : Shared} : L2.CX P w [] H s (fun _ _ _ => False) e s' → False := fun ⟨_, _, _, _, _, _, _, _, _, _, _, _, z⟩ => z
end
end VE
end

section
set_option Elab.async false
set_option linter.all false
set_option maxRecDepth 100000
set_option maxHeartbeats 1000000
/-! VE20: a law's end. -/
namespace VE
open PySem PySem.Spec L2 PySem.HandSPX
open C8 (scC fnScope_by)
section
variable {p : Prg} {l : PySem.W.OpenLaw} {w : World} {K : PySem.W.Frag} {mg : Str → Option Value} {h : Heap} {e : Ent} {x y : Str} {fa : Addr} {n k m : Nat}
theorem mdl_call {T : Tab} {F : Fn} (hx : T.fns y = some F) (sls : List Sl) : (mdl T n (k + 1)).call y sls = callF (mdl T n k) n F sls := by
  cases k with
  | zero =>
    show (match T.fns y with | some F => callF (mdl T n 0) n F sls | none => .stuck) = _
    rw [hx]
  | succ c =>
    show (match T.fns y with | some F => callF (mdl T n (c + 1)) n F sls | none => .stuck) = _
    rw [hx]
theorem law_at (X : K.In h) (G : h.Ns mainGlobals mg) (hmg : mg y = some (.ref fa)) (c : He.SaysD p.fa p.fn K) (ex : p.exB K = true) (ce : p.ents.all entC = true) (cx : p.exns.all exnC = true) (be : ∀ e ∈ p.ents, BindP e.d e.ps e.dfs.length ∧ BindK e.d e.ps e.dfs.length e.kws) (bx : ∀ e ∈ p.exns, BindP e.d e.ps 0)
    (he : p.ent y = some e) (hps : e.ps = [x]) (hd0 : e.d.dfl = [])
    (hb : ∀ (kV doc pm : Value) (an : Option Addr) (cdv ct : Value) (us : List Value), us.length = 1 → bindArgs (PySem.W.fnOf e.d.name e.d.qual e.d.params e.d.body e.d.scope .none kV doc pm an cdv ct) ⟨us, []⟩ = pure ([x].zip us))
    (plain : ∀ ns : List Int, ns.length ≤ m → (∀ z ∈ ns, Builtin.Int.intBits z ≤ 1048576) → ∃ as, (mdl p.tab n (k + 1)).call y [.fz (.scr (ns.map D.int))] = .ret (.bl true) false as) :
    LamX.LawAtS l w K (L2.CX l.prog w) (k + 1) m x mg fa h := by
  obtain ⟨mm, ex'⟩ := find_mem (show p.ents.find? (fun e => e.x == y) = some e from he)
  have exx : e.x = y := beq_iff_eq.mp ex'
  have ce' := List.all_eq_true.mp ce e mm
  simp only [entC, Bool.and_eq_true, decide_eq_true_eq] at ce'
  obtain ⟨⟨s1, s2⟩, s3⟩ := ce'
  obtain ⟨fd, FD⟩ := c.defs (d := e.d) (List.mem_append_left _ (List.mem_map_of_mem (f := fun e : Ent => e.d) mm))
  have ea : He.fAd K e.d.at_ = He.ga K e.x := by rw [s2]; rfl
  rw [ea] at FD
  have gl : mg e.x = some (.ref (He.ga K e.x)) := He.glo_ok X G (c.facts (f := .glo e.x) (List.mem_append_left _ (List.mem_map_of_mem (f := fun e : Ent => He.Fa.glo e.x) mm)))
  rw [exx, hmg] at gl
  cases gl
  have ekw : e.d.kws K = [] := by
    have : e.d.kwd = [] := List.isEmpty_iff.mp s3
    unfold He.DefD.kws
    rw [this]
    rfl
  have edv : e.d.dvs K = [] := by
    unfold He.DefD.dvs
    rw [hd0]
    rfl
  rw [ekw, edv, exx] at FD
  have hx : p.tab.fns y = some e.fn := by
    show (p.ent y).map Ent.fn = _
    rw [he]
    rfl
  refine ⟨fd, [], spF mg K (mdl p.tab n (k + 1)) y [x].length, (fun _ q => by cases q), (fun _ q => by cases q), (fun _ q => by cases q), fun s u => FD.bindsA (ps := [x]) hb s [u] rfl, fun H a ns hl hbits _ hS => law_sp hS (plain ns hl hbits), fun base _ _ _ => ?_⟩
  exact fn_ok' (F := e.fn) (ps := [x]) FD (by rw [← hps]; exact fnScope_by s1) (by show 1 = e.ps.length; rw [hps]; rfl) (md_ok (tab_ok X G c ex ce cx be bx) k) fun sls => mdl_call hx sls
end
end VE
end

section
set_option Elab.async false
set_option linter.all false
set_option maxRecDepth 100000
set_option maxHeartbeats 1000000
/-! VX: the evaluator's steps with names already resolved. -/
namespace VE
open PySem PySem.Spec L2

abbrev XE := Ro → Rs Bv
abbrev XT := Ro → Rs Bool
abbrev XL := Ro → Rs (List D)
abbrev XA := Ro → Rs (List Bv)
abbrev XS := Ro → Rf
def xVar (i : Nat) : XE := fun ρ => match ρ[i]? with
  | some (.fz d) => .ok (.va d false) ρ
  | some (.pz d) => .ok (.va d false) ρ
  | some (.ow _ _) => .ok (.at i) ρ
  | _ => .stuck
def xC (d : D) : XE := fun ρ => .ok (.va d false) ρ
def xBin (op : Operator) (a b : XE) : XE := fun ρ => (a ρ).bind fun x ρ1 => (b ρ1).bind fun y ρ2 =>
  Rs.of ((deref ρ2 x).bind fun dx => (deref ρ2 y).bind fun dy => (binD op dx dy).map fun z => Bv.va z.1 z.2) ρ2
def xNeg (a : XE) : XE := fun ρ => (a ρ).bind fun x ρ1 => (match deref ρ1 x with
  | some (.int i) => .ok (.va (.int (-i)) false) ρ1
  | _ => .stuck)
def xNot (a : XE) : XE := fun ρ => (a ρ).bind fun x ρ1 => Rs.of (((deref ρ1 x).bind truD).map fun b => Bv.va (.bl (!b)) false) ρ1
def xAnd (a b : XE) : XE := fun ρ => (a ρ).bind fun x ρ1 => (match (deref ρ1 x).bind truD with
  | none => .stuck
  | some k => if k then b ρ1 else .ok x ρ1)
def xOr (a b : XE) : XE := fun ρ => (a ρ).bind fun x ρ1 => (match (deref ρ1 x).bind truD with
  | none => .stuck
  | some k => if k then .ok x ρ1 else b ρ1)
def xIte (c : XT) (a b : XE) : XE := fun ρ => (c ρ).bind fun k ρ1 => if k then a ρ1 else b ρ1
def xCmp (op : CmpOp) (a b : XE) : XE := fun ρ => (a ρ).bind fun x ρ1 => (b ρ1).bind fun y ρ2 =>
  Rs.of ((deref ρ2 x).bind fun dx => (deref ρ2 y).bind fun dy => (cmpD op dx dy).map fun z => Bv.va (.bl z) false) ρ2
def xCmp2 (op op' : CmpOp) (a b c : XE) : XE := fun ρ => (a ρ).bind fun x ρ1 => (b ρ1).bind fun y ρ2 =>
  (match (deref ρ2 x).bind fun dx => (deref ρ2 y).bind fun dy => cmpD op dx dy with
    | none => .stuck
    | some k => if k then (c ρ2).bind fun z ρ3 =>
        Rs.of ((deref ρ3 y).bind fun dy => (deref ρ3 z).bind fun dz => (cmpD op' dy dz).map fun r => Bv.va (.bl r) false) ρ3
      else .ok (.va (.bl false) false) ρ2)
def xNil : XL := fun ρ => .ok [] ρ
def xCons (a : XE) (r : XL) : XL := fun ρ => (a ρ).bind fun b ρ1 => (whole b ρ1).bind fun d ρ2 => (r ρ2).bind fun ds ρ3 => .ok (d :: ds) ρ3
def xTup (es : XL) : XE := fun ρ => (es ρ).bind fun ds ρ1 => if szOk ds.length then .ok (.va (.tup ds) false) ρ1 else .stuck
def xLst (es : XL) : XE := fun ρ => (es ρ).bind fun ds ρ1 => if szOk ds.length then .ok (.va (.lst ds) true) ρ1 else .stuck
def xIx (a s : XE) : XE := fun ρ => (a ρ).bind fun x ρ1 => (s ρ1).bind fun y ρ2 =>
  Rs.of ((deref ρ2 x).bind fun dx => (deref ρ2 y).bind fun dy => (ixD dx dy).map fun z => Bv.va z false) ρ2
def xPart (a : XE) : Ro → Rs (Option Int) := fun ρ => (a ρ).bind fun b ρ1 => (match deref ρ1 b with
  | some (.int i) => .ok (some i) ρ1
  | _ => .stuck)
def xPart0 : Ro → Rs (Option Int) := fun ρ => .ok none ρ
def xCut (a : XE) (lo hi : Ro → Rs (Option Int)) : XE := fun ρ => (a ρ).bind fun x ρ1 => (lo ρ1).bind fun l ρ2 => (hi ρ2).bind fun h ρ3 =>
  Rs.of ((deref ρ3 x).bind fun dx => (cutD dx l h).map fun z => Bv.va z.1 z.2) ρ3
def xFmt (a : XE) : XE := fun ρ => (a ρ).bind fun x ρ1 => Rs.of (((deref ρ1 x).bind toStrD).map fun y => Bv.va (.str y) false) ρ1
def xJ0 : Str → Ro → Rs Str := fun acc ρ => .ok acc ρ
def xJ (a : XE) (r : Str → Ro → Rs Str) : Str → Ro → Rs Str := fun acc ρ => (a ρ).bind fun b ρ1 => (match deref ρ1 b with
  | some (.str y) => if szOk (acc ++ y).length then r (acc ++ y) ρ1 else .stuck
  | _ => .stuck)
def xJoin (r : Str → Ro → Rs Str) : XE := fun ρ => (r Str.empty ρ).bind fun w ρ1 => .ok (.va (.str w) false) ρ1
def xANil : XA := fun ρ => .ok [] ρ
def xACons (a : XE) (r : XA) : XA := fun ρ => (a ρ).bind fun b ρ1 => (r ρ1).bind fun bs ρ3 => .ok ((match b with | .at i => .at i | .va d _ => .va d false) :: bs) ρ3
def xOwn (C : List Sl → Cr) (ds : List D) (args : XA) : XE := fun ρ => (args ρ).bind fun bs ρ1 => (match lend ρ1 bs with
  | none => .stuck
  | some sls => (match C (sls ++ ds.map .fz) with
    | .stuck => .stuck
    | .ret d b as => .ok (.va d b) (giveBack bs as ρ1)
    | .exc c fs as => .exc c fs (giveBack bs as ρ1)))
def xKw0 : XL := fun ρ => .ok [] ρ
def xKw (C : List Sl → Cr) (n m : Nat) (pl : List KwSrc) (dfs : List D) (args kws : XL) : XE := fun ρ => (args ρ).bind fun ds ρ1 => (kws ρ1).bind fun es ρ2 => if decide (ds.length = n) && decide (es.length = m) then (match C ((planL .non ds dfs es pl).map .fz) with
  | .stuck => .stuck
  | .ret d b as => .ok (.va d b) ρ2
  | .exc c fs as => .exc c fs ρ2) else .stuck
def xGcd (args : XA) : XE := fun ρ => (args ρ).bind fun bs ρ1 => (match bs.mapM (deref ρ1) with
  | some [.int a, .int b] => .ok (.va (.int ((Nat.gcd a.natAbs b.natAbs : Nat) : Int)) false) ρ1
  | _ => .stuck)
def xBi (f : Str) (args : XA) : XE := fun ρ => (args ρ).bind fun bs ρ1 => Rs.of (((bs.mapM (deref ρ1)).bind (biD f)).map fun z => Bv.va z.1 z.2) ρ1
def xIsi (a : XE) (xs : List Str) : XE := fun ρ => (a ρ).bind fun b ρ1 => Rs.of ((((deref ρ1 b).bind tyD).bind fun t => isiD t xs).map fun r => Bv.va (.bl r) false) ρ1
def xApp (i : Nat) (a : XE) : XE := fun ρ => (xVar i ρ).bind fun x ρ1 => (match x with
  | .at i => (match ρ1[i]? with
    | some (.ow _ (.lst _)) => (a ρ1).bind fun v ρ2 => (whole v ρ2).bind fun d ρ3 => (match ρ3[i]? with
      | some (.ow md (.lst xs)) => if decide (md ≠ .lck) && decide (xs.length < sizeLine) then .ok (.va .non false) (ρ3.set i (.ow md (.lst (xs ++ [d])))) else .stuck
      | _ => .stuck)
    | _ => .stuck)
  | _ => .stuck)
/-! walks -/
abbrev XI := Ro → Rs (List D × List (Nat × Md))
def iGen (a : XE) : XI := fun ρ => (a ρ).bind fun b ρ1 => Rs.of (walkB b ρ1) ρ1
def iRng1 (a : XE) : XI := fun ρ => (a ρ).bind fun b ρ1 => (match deref ρ1 b with
  | some (.int j) => if small62 j then .ok (rngD 0 j.toNat, []) ρ1 else .stuck
  | _ => .stuck)
def iRng2 (a b : XE) : XI := fun ρ => (a ρ).bind fun x ρ1 => (b ρ1).bind fun y ρ2 => (match deref ρ2 x, deref ρ2 y with
  | some (.int i), some (.int j) => if small62 i && small62 j then .ok (rngD i (j - i).toNat, []) ρ2 else .stuck
  | _, _ => .stuck)
def iEnu (a : XE) : XI := fun ρ => (a ρ).bind fun b ρ1 => Rs.of ((walkL b ρ1).map fun w => (enumD w.1, w.2)) ρ1
def iZip (a b : XE) : XI := fun ρ => (a ρ).bind fun x ρ1 => (b ρ1).bind fun y ρ2 => Rs.of ((walkL x ρ2).bind fun w => (walkL y ρ2).bind fun u => if decide ((w.2 ++ u.2).map (·.1)).Nodup then some (zipD w.1 u.1, w.2 ++ u.2) else none) ρ2
/-! stores to resolved places -/
def stI (i : Nat) (s : Sl) (ρ : Ro) : Option Ro := if mayStore ρ[i]? then some (ρ.set i s) else none
def agI (i : Nat) : D → Ro → Option Ro := fun d ρ => stI i (.fz d) ρ
def agL : List Nat → List D → Ro → Option Ro
  | [], [], ρ => some ρ
  | i :: is, d :: ds, ρ => (stI i (.fz d) ρ).bind fun ρ1 => agL is ds ρ1
  | _, _, _ => none
def agT (is : List Nat) : D → Ro → Option Ro := fun d ρ => match d with
  | .tup ds => agL is ds ρ
  | _ => none
def putI (i : Nat) (b : Bv) (ρ : Ro) : Rf := match b with
  | .va d true => Rf.of (stI i (.ow .own d) ρ)
  | .va d false => Rf.of (stI i (.fz d) ρ)
  | .at j => (whole (.at j) ρ).toF fun d ρ1 => Rf.of (stI i (.fz d) ρ1)
def xComp (idx : List Nat) (it : XI) (asg : D → Ro → Option Ro) (test : XT) (elt : XE) : XE := fun ρ => (it ρ).bind fun w ρ1 => if idx.all (fun i => flatSl (lockAll w.2 ρ1)[i]?) then
  (match loopC idx asg test elt w.1 [] (wipeR idx (lockAll w.2 ρ1)) with
  | .ok ds ρ2 => .ok (.va (.lst ds) true) (unlockAll w.2 (unwipe (lockAll w.2 ρ1) idx ρ2))
  | _ => .stuck) else .stuck
/-! tests -/
def tE (a : XE) : XT := fun ρ => (a ρ).bind fun x ρ1 => Rs.of ((deref ρ1 x).bind truD) ρ1
def tYes : XT := fun ρ => .ok true ρ
def tNot (a : XT) : XT := fun ρ => (a ρ).bind fun b ρ1 => .ok (!b) ρ1
def tAnd (a b : XT) : XT := fun ρ => (a ρ).bind fun k ρ1 => if k then b ρ1 else .ok false ρ1
def tOr (a b : XT) : XT := fun ρ => (a ρ).bind fun k ρ1 => if k then .ok true ρ1 else b ρ1
def tCm (a : XE) : XT := fun ρ => (a ρ).bind fun x ρ1 => (match x with
  | .va (.bl b) _ => .ok b ρ1
  | _ => .stuck)
/-! statements -/
def sNil : XS := fun ρ => .next ρ
def sCons (a b : XS) : XS := fun ρ => match a ρ with
  | .next ρ1 => b ρ1
  | q => q
def sSet (i : Nat) (a : XE) : XS := fun ρ => (a ρ).toF fun b ρ1 => putI i b ρ1
def sSetT (asg : D → Ro → Option Ro) (a : XE) : XS := fun ρ => (a ρ).toF fun b ρ1 => (whole b ρ1).toF fun d ρ2 => Rf.of (asg d ρ2)
def sPar (i j : Nat) (a : XL) : XS := fun ρ => (a ρ).toF fun ds ρ1 => (match ds with
  | [d, e] => Rf.of ((stI i (.fz d) ρ1).bind fun ρ2 => stI j (.fz e) ρ2)
  | _ => .stuck)
def sSub (o ix a : XE) : XS := fun ρ => (a ρ).toF fun b ρ1 => (whole b ρ1).toF fun d ρ2 => (o ρ2).toF fun t ρ3 => (match t with
  | .at i => (ix ρ3).toF fun j ρ4 => (match deref ρ4 j, ρ4[i]? with
    | some (.int k), some (.ow md (.lst xs)) => (match ixN xs.length k with
      | some n => if md ≠ .lck then .next (ρ4.set i (.ow md (.lst (xs.set n d)))) else .stuck
      | none => .stuck)
    | _, _ => .stuck)
  | _ => .stuck)
def sAug (i : Nat) (f : Int → Int → Int) (a : XE) : XS := fun ρ => (match ρ[i]? with
  | some (.fz (.int k)) => (a ρ).toF fun b ρ1 => (match deref ρ1 b with
    | some (.int m) => Rf.of (stI i (.fz (.int (f k m))) ρ1)
    | _ => .stuck)
  | _ => .stuck)
def sDrop (a : XE) : XS := fun ρ => (a ρ).toF fun _ ρ1 => .next ρ1
def sRet (a : XE) : XS := fun ρ => (a ρ).toF fun b ρ1 => .ret b ρ1
def sRetN : XS := fun ρ => .ret (.va .non false) ρ
def sBrk : XS := fun ρ => .brk ρ
def sCnt : XS := fun ρ => .cnt ρ
def sIf (c : XT) (a b : XS) : XS := fun ρ => (c ρ).toF fun k ρ1 => if k then a ρ1 else b ρ1
def sFor (it : XI) (asg : D → Ro → Option Ro) (body : XS) : XS := fun ρ => (it ρ).toF fun w ρ1 => (loopF asg body w.1 (lockAll w.2 ρ1)).map (unlockAll w.2)
def sWhile (c : XT) (body : XS) : XS := fun ρ => loopW c body 1000000 ρ
def sRaise (x : Str) (mk : List D → Option (List (Str × D))) (a : XL) : XS := fun ρ => (a ρ).toF fun ds ρ1 => (match mk ds with
  | some fs => .exc x fs ρ1
  | none => .stuck)
/-! try: one clause -/
abbrev XQ := Str → List (Str × D) → Option D
def qC (d : D) : XQ := fun _ _ => some d
def qFld (fok : Str → Str → Bool) (f : Str) : XQ := fun x fs => if fok x f then fs.lookup f else none
def qNil : Str → List (Str × D) → Option (List D) := fun _ _ => some []
def qCons (a : XQ) (r : Str → List (Str × D) → Option (List D)) : Str → List (Str × D) → Option (List D) := fun x fs => (a x fs).bind fun d => (r x fs).map (d :: ·)
def qTup (r : Str → List (Str × D) → Option (List D)) : XQ := fun x fs => (r x fs).bind fun ds => if szOk ds.length then some (.tup ds) else none
def qLst (r : Str → List (Str × D) → Option (List D)) : XQ := fun x fs => (r x fs).bind fun ds => if szOk ds.length then some (.lst ds) else none
abbrev XQS := Str → List (Str × D) → XS
def qPass : XQS := fun _ _ ρ => .next ρ
def qRetN : XQS := fun _ _ ρ => .ret (.va .non false) ρ
def qRet (q : XQ) : XQS := fun x fs ρ => match q x fs with
  | some d => .ret (.va d false) ρ
  | none => .stuck
def qSet (j : Nat) (q : XQ) : XQS := fun x fs ρ => match q x fs with
  | some d => Rf.of (stI j (.fz d) ρ)
  | none => .stuck
def sTry (isx : Str → Option Bool) (i : Nat) (body : XS) (suite : XQS) : XS := fun ρ => match body ρ with
  | .exc x fs ρ1 => (match isx x with
    | some false => .exc x fs ρ1
    | some true => if flatSl ρ1[i]? then suite x fs (ρ1.set i .un) else .stuck
    | none => .stuck)
  | r => r
end VE
end

section
set_option Elab.async false
set_option linter.all false
set_option maxRecDepth 100000
set_option maxHeartbeats 4000000
namespace LawP
open PySem PySem.Spec L2 VE
def top (i : Nat) : Stmt := PySem.Challenge.pw_alreadytold_k01_whole_ratios.main.body.getD i (.Pass ⟨0, 0, 0, 0⟩)
def inner (s : Stmt) (i : Nat) : Stmt := match s with
  | .ClassDef (body := b) .. => b.getD i (.Pass ⟨0, 0, 0, 0⟩)
  | _ => .Pass ⟨0, 0, 0, 0⟩
def d_is_whole : He.DefD := ⟨("is_whole", none), "is_whole", "is_whole", defArgs (top 7), defBody (top 7), defScope (top 7), [.non, .non], []⟩
def e_is_whole : Ent := ⟨"is_whole", ["thing", "low", "high"], ["thing", "low", "high"], d_is_whole, [.non, .non], [(1, ["low"], [.pos 0, .kw 0, .dfl 1]), (1, ["high"], [.pos 0, .dfl 0, .kw 0])]⟩
def d_is_ratio : He.DefD := ⟨("is_ratio", none), "is_ratio", "is_ratio", defArgs (top 8), defBody (top 8), defScope (top 8), [], []⟩
def e_is_ratio : Ent := ⟨"is_ratio", ["thing"], ["thing"], d_is_ratio, [], []⟩
def d_in_lowest_terms : He.DefD := ⟨("in_lowest_terms", none), "in_lowest_terms", "in_lowest_terms", defArgs (top 9), defBody (top 9), defScope (top 9), [], []⟩
def e_in_lowest_terms : Ent := ⟨"in_lowest_terms", ["top", "bottom"], ["top", "bottom", "common"], d_in_lowest_terms, [], []⟩
def d_make_ratio : He.DefD := ⟨("make_ratio", none), "make_ratio", "make_ratio", defArgs (top 10), defBody (top 10), defScope (top 10), [.int (1)], []⟩
def e_make_ratio : Ent := ⟨"make_ratio", ["top", "bottom"], ["top", "bottom"], d_make_ratio, [.int (1)], []⟩
def d_plus : He.DefD := ⟨("plus", none), "plus", "plus", defArgs (top 11), defBody (top 11), defScope (top 11), [], []⟩
def e_plus : Ent := ⟨"plus", ["one", "other"], ["one", "other"], d_plus, [], []⟩
def d_minus : He.DefD := ⟨("minus", none), "minus", "minus", defArgs (top 12), defBody (top 12), defScope (top 12), [], []⟩
def e_minus : Ent := ⟨"minus", ["one", "other"], ["one", "other"], d_minus, [], []⟩
def d_times : He.DefD := ⟨("times", none), "times", "times", defArgs (top 13), defBody (top 13), defScope (top 13), [], []⟩
def e_times : Ent := ⟨"times", ["one", "other"], ["one", "other"], d_times, [], []⟩
def d_over : He.DefD := ⟨("over", none), "over", "over", defArgs (top 14), defBody (top 14), defScope (top 14), [], []⟩
def e_over : Ent := ⟨"over", ["one", "other"], ["one", "other"], d_over, [], []⟩
def d_compare : He.DefD := ⟨("compare", none), "compare", "compare", defArgs (top 15), defBody (top 15), defScope (top 15), [], []⟩
def e_compare : Ent := ⟨"compare", ["one", "other"], ["one", "other", "difference"], d_compare, [], []⟩
def d_sum_of : He.DefD := ⟨("sum_of", none), "sum_of", "sum_of", defArgs (top 16), defBody (top 16), defScope (top 16), [], []⟩
def e_sum_of : Ent := ⟨"sum_of", ["ratios"], ["ratios", "total", "ratio"], d_sum_of, [], []⟩
def d_ratio_text : He.DefD := ⟨("ratio_text", none), "ratio_text", "ratio_text", defArgs (top 17), defBody (top 17), defScope (top 17), [], []⟩
def e_ratio_text : Ent := ⟨"ratio_text", ["one"], ["one"], d_ratio_text, [], []⟩
def d__law_hand : He.DefD := ⟨("_law_hand", none), "_law_hand", "_law_hand", defArgs (top 19), defBody (top 19), defScope (top 19), [], []⟩
def e__law_hand : Ent := ⟨"_law_hand", ["_law_script"], ["_law_script", "_law_total", "_law_cells", "_law_cell"], d__law_hand, [], []⟩
def d__law_mixed : He.DefD := ⟨("_law_mixed", none), "_law_mixed", "_law_mixed", defArgs (top 20), defBody (top 20), defScope (top 20), [], []⟩
def e__law_mixed : Ent := ⟨"_law_mixed", ["_law_number", "_law_turn"], ["_law_number", "_law_turn", "_law_once", "_law_twice"], d__law_mixed, [], []⟩
def d__law_take : He.DefD := ⟨("_law_take", none), "_law_take", "_law_take", defArgs (top 21), defBody (top 21), defScope (top 21), [], []⟩
def e__law_take : Ent := ⟨"_law_take", ["_law_hand_here", "_law_many"], ["_law_hand_here", "_law_many", "_law_cell", "_law_rest"], d__law_take, [], []⟩
def d__law_part : He.DefD := ⟨("_law_part", none), "_law_part", "_law_part", defArgs (top 22), defBody (top 22), defScope (top 22), [], []⟩
def e__law_part : Ent := ⟨"_law_part", ["_law_one", "_law_other"], ["_law_one", "_law_other", "_law_step"], d__law_part, [], []⟩
def d__law_ratio : He.DefD := ⟨("_law_ratio", none), "_law_ratio", "_law_ratio", defArgs (top 23), defBody (top 23), defScope (top 23), [], []⟩
def e__law_ratio : Ent := ⟨"_law_ratio", ["_law_top", "_law_bottom"], ["_law_top", "_law_bottom", "_law_part_here"], d__law_ratio, [], []⟩
def d__law_plus : He.DefD := ⟨("_law_plus", none), "_law_plus", "_law_plus", defArgs (top 24), defBody (top 24), defScope (top 24), [], []⟩
def e__law_plus : Ent := ⟨"_law_plus", ["_law_one", "_law_other"], ["_law_one", "_law_other"], d__law_plus, [], []⟩
def d__law_times : He.DefD := ⟨("_law_times", none), "_law_times", "_law_times", defArgs (top 25), defBody (top 25), defScope (top 25), [], []⟩
def e__law_times : Ent := ⟨"_law_times", ["_law_one", "_law_other"], ["_law_one", "_law_other"], d__law_times, [], []⟩
def d__law_whole : He.DefD := ⟨("_law_whole", none), "_law_whole", "_law_whole", defArgs (top 26), defBody (top 26), defScope (top 26), [], []⟩
def e__law_whole : Ent := ⟨"_law_whole", ["_law_thing", "_law_low", "_law_high"], ["_law_thing", "_law_low", "_law_high"], d__law_whole, [], []⟩
def d__law_truth : He.DefD := ⟨("_law_truth", none), "_law_truth", "_law_truth", defArgs (top 27), defBody (top 27), defScope (top 27), [], []⟩
def e__law_truth : Ent := ⟨"_law_truth", ["_law_told", "_law_due_here"], ["_law_told", "_law_due_here"], d__law_truth, [], []⟩
def d__law_int : He.DefD := ⟨("_law_int", none), "_law_int", "_law_int", defArgs (top 28), defBody (top 28), defScope (top 28), [], []⟩
def e__law_int : Ent := ⟨"_law_int", ["_law_thing"], ["_law_thing"], d__law_int, [], []⟩
def d__law_big : He.DefD := ⟨("_law_big", none), "_law_big", "_law_big", defArgs (top 29), defBody (top 29), defScope (top 29), [], []⟩
def e__law_big : Ent := ⟨"_law_big", ["_law_hand_here"], ["_law_hand_here"], d__law_big, [], []⟩
def d__law_signed : He.DefD := ⟨("_law_signed", none), "_law_signed", "_law_signed", defArgs (top 30), defBody (top 30), defScope (top 30), [], []⟩
def e__law_signed : Ent := ⟨"_law_signed", ["_law_hand_here"], ["_law_hand_here", "_law_number"], d__law_signed, [], []⟩
def d__law_is_ratio : He.DefD := ⟨("_law_is_ratio", none), "_law_is_ratio", "_law_is_ratio", defArgs (top 31), defBody (top 31), defScope (top 31), [], []⟩
def e__law_is_ratio : Ent := ⟨"_law_is_ratio", ["_law_thing"], ["_law_thing"], d__law_is_ratio, [], []⟩
def d__law_same_ratio : He.DefD := ⟨("_law_same_ratio", none), "_law_same_ratio", "_law_same_ratio", defArgs (top 32), defBody (top 32), defScope (top 32), [], []⟩
def e__law_same_ratio : Ent := ⟨"_law_same_ratio", ["_law_told", "_law_due_here"], ["_law_told", "_law_due_here"], d__law_same_ratio, [], []⟩
def d__law_make : He.DefD := ⟨("_law_make", none), "_law_make", "_law_make", defArgs (top 33), defBody (top 33), defScope (top 33), [], []⟩
def e__law_make : Ent := ⟨"_law_make", ["_law_top", "_law_bottom"], ["_law_top", "_law_bottom", "wrong", "_law_found"], d__law_make, [], []⟩
def d__law_over : He.DefD := ⟨("_law_over", none), "_law_over", "_law_over", defArgs (top 34), defBody (top 34), defScope (top 34), [], []⟩
def e__law_over : Ent := ⟨"_law_over", ["_law_one", "_law_other"], ["_law_one", "_law_other", "wrong", "_law_found"], d__law_over, [], []⟩
def d__law_number_or_odd : He.DefD := ⟨("_law_number_or_odd", none), "_law_number_or_odd", "_law_number_or_odd", defArgs (top 35), defBody (top 35), defScope (top 35), [], []⟩
def e__law_number_or_odd : Ent := ⟨"_law_number_or_odd", ["_law_hand_here"], ["_law_hand_here"], d__law_number_or_odd, [], []⟩
def d__law_due : He.DefD := ⟨("_law_due", none), "_law_due", "_law_due", defArgs (top 36), defBody (top 36), defScope (top 36), [], []⟩
def e__law_due : Ent := ⟨"_law_due", ["_law_top", "_law_bottom"], ["_law_top", "_law_bottom"], d__law_due, [], []⟩
def d__law_pair_right : He.DefD := ⟨("_law_pair_right", none), "_law_pair_right", "_law_pair_right", defArgs (top 37), defBody (top 37), defScope (top 37), [], []⟩
def e__law_pair_right : Ent := ⟨"_law_pair_right", ["_law_one", "_law_other"], ["_law_one", "_law_other", "_law_left", "_law_right", "_law_sign", "_law_found"], d__law_pair_right, [], []⟩
def d__law_things : He.DefD := ⟨("_law_things", none), "_law_things", "_law_things", defArgs (top 38), defBody (top 38), defScope (top 38), [], []⟩
def e__law_things : Ent := ⟨"_law_things", ["_law_hand_here"], ["_law_hand_here", "_law_number"], d__law_things, [], []⟩
def d_law : He.DefD := ⟨("law", none), "law", "law", defArgs (top 39), defBody (top 39), defScope (top 39), [], []⟩
def e_law : Ent := ⟨"law", ["_law_script"], ["_law_script", "_law_hand_here", "_law_turn", "_law_whole_here", "_law_ratios", "_law_total", "_law_one", "_law_least", "_law_most", "_law_thing", "_law_top", "_law_bottom", "_law_due_here", "_law_found", "_law_other"], d_law, [], []⟩
def dx_BadRatio : He.DefD := ⟨("BadRatio", some "__init__"), "__init__", "BadRatio.__init__", defArgs (inner (top 3) 0), defBody (inner (top 3) 0), defScope (inner (top 3) 0), [], []⟩
def x_BadRatio : Exn := ⟨"BadRatio", ["self", "what"], ["self", "what"], dx_BadRatio, [("what", 1)]⟩
def prg : Prg := ⟨[e_is_whole, e_is_ratio, e_in_lowest_terms, e_make_ratio, e_plus, e_minus, e_times, e_over, e_compare, e_sum_of, e_ratio_text, e__law_hand, e__law_mixed, e__law_take, e__law_part, e__law_ratio, e__law_plus, e__law_times, e__law_whole, e__law_truth, e__law_int, e__law_big, e__law_signed, e__law_is_ratio, e__law_same_ratio, e__law_make, e__law_over, e__law_number_or_odd, e__law_due, e__law_pair_right, e__law_things, e_law], [x_BadRatio], [("ZERO", .tup [.int (0), .int (1)]), ("ONE", .tup [.int (1), .int (1)])], [("gcd", "math.gcd")], ["ValueError", "abs", "range", "isinstance", "bool", "str", "len", "int", "tuple"], [(("BadRatio", "BadRatio"), true)]⟩
theorem b_d_is_whole : BindP d_is_whole ["thing", "low", "high"] 2 := by
  intro K dvs f fd F h j hj
  have hd : dvs ≠ [] := fun z => by rw [z] at h; cases h
  match j, hj with
  | 0, _ =>
    obtain ⟨ds, h1, h2⟩ := F.binds1 (ps := ["thing", "low", "high"]) 1 0 hd (by rw [h]; rfl) fun T kV doc pm an cdv ct us its h1 h2 => match us, its, h1, h2.trans h with | [_], [_, _], _, _ => ⟨_, rfl, rfl⟩
    exact ⟨ds, h1, h2⟩
  | 1, _ =>
    obtain ⟨ds, h1, h2⟩ := F.binds1 (ps := ["thing", "low", "high"]) 2 1 hd (by rw [h]; rfl) fun T kV doc pm an cdv ct us its h1 h2 => match us, its, h1, h2.trans h with | [_, _], [_, _], _, _ => ⟨_, rfl, rfl⟩
    exact ⟨ds, h1, h2⟩
  | 2, _ =>
    obtain ⟨ds, h1, h2⟩ := F.binds1 (ps := ["thing", "low", "high"]) 3 2 hd (by rw [h]; rfl) fun T kV doc pm an cdv ct us its h1 h2 => match us, its, h1, h2.trans h with | [_, _, _], [_, _], _, _ => ⟨_, rfl, rfl⟩
    exact ⟨ds, h1, h2⟩
  | (n + 3), hj => exact absurd hj (by omega)
theorem b_d_is_ratio : BindP d_is_ratio ["thing"] 0 := by
  intro K dvs f fd F h j hj
  have e : dvs = [] := List.length_eq_zero_iff.mp h
  subst e
  obtain rfl : j = 0 := Nat.le_zero.mp hj
  exact ⟨[], .nil, F.bindsN fun _ _ _ _ _ _ us hl => match us, hl with | [_], _ => rfl⟩
theorem b_d_in_lowest_terms : BindP d_in_lowest_terms ["top", "bottom"] 0 := by
  intro K dvs f fd F h j hj
  have e : dvs = [] := List.length_eq_zero_iff.mp h
  subst e
  obtain rfl : j = 0 := Nat.le_zero.mp hj
  exact ⟨[], .nil, F.bindsN fun _ _ _ _ _ _ us hl => match us, hl with | [_, _], _ => rfl⟩
theorem b_d_make_ratio : BindP d_make_ratio ["top", "bottom"] 1 := by
  intro K dvs f fd F h j hj
  have hd : dvs ≠ [] := fun z => by rw [z] at h; cases h
  match j, hj with
  | 0, _ =>
    obtain ⟨ds, h1, h2⟩ := F.binds1 (ps := ["top", "bottom"]) 1 0 hd (by rw [h]; rfl) fun T kV doc pm an cdv ct us its h1 h2 => match us, its, h1, h2.trans h with | [_], [_], _, _ => ⟨_, rfl, rfl⟩
    exact ⟨ds, h1, h2⟩
  | 1, _ =>
    obtain ⟨ds, h1, h2⟩ := F.binds1 (ps := ["top", "bottom"]) 2 1 hd (by rw [h]; rfl) fun T kV doc pm an cdv ct us its h1 h2 => match us, its, h1, h2.trans h with | [_, _], [_], _, _ => ⟨_, rfl, rfl⟩
    exact ⟨ds, h1, h2⟩
  | (n + 2), hj => exact absurd hj (by omega)
theorem b_d_plus : BindP d_plus ["one", "other"] 0 := by
  intro K dvs f fd F h j hj
  have e : dvs = [] := List.length_eq_zero_iff.mp h
  subst e
  obtain rfl : j = 0 := Nat.le_zero.mp hj
  exact ⟨[], .nil, F.bindsN fun _ _ _ _ _ _ us hl => match us, hl with | [_, _], _ => rfl⟩
theorem b_d_minus : BindP d_minus ["one", "other"] 0 := by
  intro K dvs f fd F h j hj
  have e : dvs = [] := List.length_eq_zero_iff.mp h
  subst e
  obtain rfl : j = 0 := Nat.le_zero.mp hj
  exact ⟨[], .nil, F.bindsN fun _ _ _ _ _ _ us hl => match us, hl with | [_, _], _ => rfl⟩
theorem b_d_times : BindP d_times ["one", "other"] 0 := by
  intro K dvs f fd F h j hj
  have e : dvs = [] := List.length_eq_zero_iff.mp h
  subst e
  obtain rfl : j = 0 := Nat.le_zero.mp hj
  exact ⟨[], .nil, F.bindsN fun _ _ _ _ _ _ us hl => match us, hl with | [_, _], _ => rfl⟩
theorem b_d_over : BindP d_over ["one", "other"] 0 := by
  intro K dvs f fd F h j hj
  have e : dvs = [] := List.length_eq_zero_iff.mp h
  subst e
  obtain rfl : j = 0 := Nat.le_zero.mp hj
  exact ⟨[], .nil, F.bindsN fun _ _ _ _ _ _ us hl => match us, hl with | [_, _], _ => rfl⟩
theorem b_d_compare : BindP d_compare ["one", "other"] 0 := by
  intro K dvs f fd F h j hj
  have e : dvs = [] := List.length_eq_zero_iff.mp h
  subst e
  obtain rfl : j = 0 := Nat.le_zero.mp hj
  exact ⟨[], .nil, F.bindsN fun _ _ _ _ _ _ us hl => match us, hl with | [_, _], _ => rfl⟩
theorem b_d_sum_of : BindP d_sum_of ["ratios"] 0 := by
  intro K dvs f fd F h j hj
  have e : dvs = [] := List.length_eq_zero_iff.mp h
  subst e
  obtain rfl : j = 0 := Nat.le_zero.mp hj
  exact ⟨[], .nil, F.bindsN fun _ _ _ _ _ _ us hl => match us, hl with | [_], _ => rfl⟩
theorem b_d_ratio_text : BindP d_ratio_text ["one"] 0 := by
  intro K dvs f fd F h j hj
  have e : dvs = [] := List.length_eq_zero_iff.mp h
  subst e
  obtain rfl : j = 0 := Nat.le_zero.mp hj
  exact ⟨[], .nil, F.bindsN fun _ _ _ _ _ _ us hl => match us, hl with | [_], _ => rfl⟩
theorem b_d__law_hand : BindP d__law_hand ["_law_script"] 0 := by
  intro K dvs f fd F h j hj
  have e : dvs = [] := List.length_eq_zero_iff.mp h
  subst e
  obtain rfl : j = 0 := Nat.le_zero.mp hj
  exact ⟨[], .nil, F.bindsN fun _ _ _ _ _ _ us hl => match us, hl with | [_], _ => rfl⟩
theorem b_d__law_mixed : BindP d__law_mixed ["_law_number", "_law_turn"] 0 := by
  intro K dvs f fd F h j hj
  have e : dvs = [] := List.length_eq_zero_iff.mp h
  subst e
  obtain rfl : j = 0 := Nat.le_zero.mp hj
  exact ⟨[], .nil, F.bindsN fun _ _ _ _ _ _ us hl => match us, hl with | [_, _], _ => rfl⟩
theorem b_d__law_take : BindP d__law_take ["_law_hand_here", "_law_many"] 0 := by
  intro K dvs f fd F h j hj
  have e : dvs = [] := List.length_eq_zero_iff.mp h
  subst e
  obtain rfl : j = 0 := Nat.le_zero.mp hj
  exact ⟨[], .nil, F.bindsN fun _ _ _ _ _ _ us hl => match us, hl with | [_, _], _ => rfl⟩
theorem b_d__law_part : BindP d__law_part ["_law_one", "_law_other"] 0 := by
  intro K dvs f fd F h j hj
  have e : dvs = [] := List.length_eq_zero_iff.mp h
  subst e
  obtain rfl : j = 0 := Nat.le_zero.mp hj
  exact ⟨[], .nil, F.bindsN fun _ _ _ _ _ _ us hl => match us, hl with | [_, _], _ => rfl⟩
theorem b_d__law_ratio : BindP d__law_ratio ["_law_top", "_law_bottom"] 0 := by
  intro K dvs f fd F h j hj
  have e : dvs = [] := List.length_eq_zero_iff.mp h
  subst e
  obtain rfl : j = 0 := Nat.le_zero.mp hj
  exact ⟨[], .nil, F.bindsN fun _ _ _ _ _ _ us hl => match us, hl with | [_, _], _ => rfl⟩
theorem b_d__law_plus : BindP d__law_plus ["_law_one", "_law_other"] 0 := by
  intro K dvs f fd F h j hj
  have e : dvs = [] := List.length_eq_zero_iff.mp h
  subst e
  obtain rfl : j = 0 := Nat.le_zero.mp hj
  exact ⟨[], .nil, F.bindsN fun _ _ _ _ _ _ us hl => match us, hl with | [_, _], _ => rfl⟩
theorem b_d__law_times : BindP d__law_times ["_law_one", "_law_other"] 0 := by
  intro K dvs f fd F h j hj
  have e : dvs = [] := List.length_eq_zero_iff.mp h
  subst e
  obtain rfl : j = 0 := Nat.le_zero.mp hj
  exact ⟨[], .nil, F.bindsN fun _ _ _ _ _ _ us hl => match us, hl with | [_, _], _ => rfl⟩
theorem b_d__law_whole : BindP d__law_whole ["_law_thing", "_law_low", "_law_high"] 0 := by
  intro K dvs f fd F h j hj
  have e : dvs = [] := List.length_eq_zero_iff.mp h
  subst e
  obtain rfl : j = 0 := Nat.le_zero.mp hj
  exact ⟨[], .nil, F.bindsN fun _ _ _ _ _ _ us hl => match us, hl with | [_, _, _], _ => rfl⟩
theorem b_d__law_truth : BindP d__law_truth ["_law_told", "_law_due_here"] 0 := by
  intro K dvs f fd F h j hj
  have e : dvs = [] := List.length_eq_zero_iff.mp h
  subst e
  obtain rfl : j = 0 := Nat.le_zero.mp hj
  exact ⟨[], .nil, F.bindsN fun _ _ _ _ _ _ us hl => match us, hl with | [_, _], _ => rfl⟩
theorem b_d__law_int : BindP d__law_int ["_law_thing"] 0 := by
  intro K dvs f fd F h j hj
  have e : dvs = [] := List.length_eq_zero_iff.mp h
  subst e
  obtain rfl : j = 0 := Nat.le_zero.mp hj
  exact ⟨[], .nil, F.bindsN fun _ _ _ _ _ _ us hl => match us, hl with | [_], _ => rfl⟩
theorem b_d__law_big : BindP d__law_big ["_law_hand_here"] 0 := by
  intro K dvs f fd F h j hj
  have e : dvs = [] := List.length_eq_zero_iff.mp h
  subst e
  obtain rfl : j = 0 := Nat.le_zero.mp hj
  exact ⟨[], .nil, F.bindsN fun _ _ _ _ _ _ us hl => match us, hl with | [_], _ => rfl⟩
theorem b_d__law_signed : BindP d__law_signed ["_law_hand_here"] 0 := by
  intro K dvs f fd F h j hj
  have e : dvs = [] := List.length_eq_zero_iff.mp h
  subst e
  obtain rfl : j = 0 := Nat.le_zero.mp hj
  exact ⟨[], .nil, F.bindsN fun _ _ _ _ _ _ us hl => match us, hl with | [_], _ => rfl⟩
theorem b_d__law_is_ratio : BindP d__law_is_ratio ["_law_thing"] 0 := by
  intro K dvs f fd F h j hj
  have e : dvs = [] := List.length_eq_zero_iff.mp h
  subst e
  obtain rfl : j = 0 := Nat.le_zero.mp hj
  exact ⟨[], .nil, F.bindsN fun _ _ _ _ _ _ us hl => match us, hl with | [_], _ => rfl⟩
theorem b_d__law_same_ratio : BindP d__law_same_ratio ["_law_told", "_law_due_here"] 0 := by
  intro K dvs f fd F h j hj
  have e : dvs = [] := List.length_eq_zero_iff.mp h
  subst e
  obtain rfl : j = 0 := Nat.le_zero.mp hj
  exact ⟨[], .nil, F.bindsN fun _ _ _ _ _ _ us hl => match us, hl with | [_, _], _ => rfl⟩
theorem b_d__law_make : BindP d__law_make ["_law_top", "_law_bottom"] 0 := by
  intro K dvs f fd F h j hj
  have e : dvs = [] := List.length_eq_zero_iff.mp h
  subst e
  obtain rfl : j = 0 := Nat.le_zero.mp hj
  exact ⟨[], .nil, F.bindsN fun _ _ _ _ _ _ us hl => match us, hl with | [_, _], _ => rfl⟩
theorem b_d__law_over : BindP d__law_over ["_law_one", "_law_other"] 0 := by
  intro K dvs f fd F h j hj
  have e : dvs = [] := List.length_eq_zero_iff.mp h
  subst e
  obtain rfl : j = 0 := Nat.le_zero.mp hj
  exact ⟨[], .nil, F.bindsN fun _ _ _ _ _ _ us hl => match us, hl with | [_, _], _ => rfl⟩
theorem b_d__law_number_or_odd : BindP d__law_number_or_odd ["_law_hand_here"] 0 := by
  intro K dvs f fd F h j hj
  have e : dvs = [] := List.length_eq_zero_iff.mp h
  subst e
  obtain rfl : j = 0 := Nat.le_zero.mp hj
  exact ⟨[], .nil, F.bindsN fun _ _ _ _ _ _ us hl => match us, hl with | [_], _ => rfl⟩
theorem b_d__law_due : BindP d__law_due ["_law_top", "_law_bottom"] 0 := by
  intro K dvs f fd F h j hj
  have e : dvs = [] := List.length_eq_zero_iff.mp h
  subst e
  obtain rfl : j = 0 := Nat.le_zero.mp hj
  exact ⟨[], .nil, F.bindsN fun _ _ _ _ _ _ us hl => match us, hl with | [_, _], _ => rfl⟩
theorem b_d__law_pair_right : BindP d__law_pair_right ["_law_one", "_law_other"] 0 := by
  intro K dvs f fd F h j hj
  have e : dvs = [] := List.length_eq_zero_iff.mp h
  subst e
  obtain rfl : j = 0 := Nat.le_zero.mp hj
  exact ⟨[], .nil, F.bindsN fun _ _ _ _ _ _ us hl => match us, hl with | [_, _], _ => rfl⟩
theorem b_d__law_things : BindP d__law_things ["_law_hand_here"] 0 := by
  intro K dvs f fd F h j hj
  have e : dvs = [] := List.length_eq_zero_iff.mp h
  subst e
  obtain rfl : j = 0 := Nat.le_zero.mp hj
  exact ⟨[], .nil, F.bindsN fun _ _ _ _ _ _ us hl => match us, hl with | [_], _ => rfl⟩
theorem b_d_law : BindP d_law ["_law_script"] 0 := by
  intro K dvs f fd F h j hj
  have e : dvs = [] := List.length_eq_zero_iff.mp h
  subst e
  obtain rfl : j = 0 := Nat.le_zero.mp hj
  exact ⟨[], .nil, F.bindsN fun _ _ _ _ _ _ us hl => match us, hl with | [_], _ => rfl⟩
theorem b_dx_BadRatio : BindP dx_BadRatio ["self", "what"] 0 := by
  intro K dvs f fd F h j hj
  have e : dvs = [] := List.length_eq_zero_iff.mp h
  subst e
  obtain rfl : j = 0 := Nat.le_zero.mp hj
  exact ⟨[], .nil, F.bindsN fun _ _ _ _ _ _ us hl => match us, hl with | [_, _], _ => rfl⟩
theorem k_is_whole : BindK d_is_whole ["thing", "low", "high"] 2 [(1, ["low"], [.pos 0, .kw 0, .dfl 1]), (1, ["high"], [.pos 0, .dfl 0, .kw 0])] := by
  intro K dvs f fd F h q hq
  have hd : dvs ≠ [] := fun z => by rw [z] at h; cases h
  rcases List.mem_cons.mp hq with rfl | hq
  · exact kbind1 F 1 ["low"] [.pos 0, .kw 0, .dfl 1] hd fun T kV doc pm an cdv ct us its ws h1 h2 h3 => match us, its, ws, h1, h2.trans h, h3 with | [_], [_, _], [_], _, _, _ => ⟨_, rfl, rfl⟩
  rcases List.mem_cons.mp hq with rfl | hq
  · exact kbind1 F 1 ["high"] [.pos 0, .dfl 0, .kw 0] hd fun T kV doc pm an cdv ct us its ws h1 h2 h3 => match us, its, ws, h1, h2.trans h, h3 with | [_], [_, _], [_], _, _, _ => ⟨_, rfl, rfl⟩
  cases hq
theorem k_is_ratio : BindK d_is_ratio ["thing"] 0 [] := by
  intro K dvs f fd F h q hq
  cases hq
theorem k_in_lowest_terms : BindK d_in_lowest_terms ["top", "bottom"] 0 [] := by
  intro K dvs f fd F h q hq
  cases hq
theorem k_make_ratio : BindK d_make_ratio ["top", "bottom"] 1 [] := by
  intro K dvs f fd F h q hq
  cases hq
theorem k_plus : BindK d_plus ["one", "other"] 0 [] := by
  intro K dvs f fd F h q hq
  cases hq
theorem k_minus : BindK d_minus ["one", "other"] 0 [] := by
  intro K dvs f fd F h q hq
  cases hq
theorem k_times : BindK d_times ["one", "other"] 0 [] := by
  intro K dvs f fd F h q hq
  cases hq
theorem k_over : BindK d_over ["one", "other"] 0 [] := by
  intro K dvs f fd F h q hq
  cases hq
theorem k_compare : BindK d_compare ["one", "other"] 0 [] := by
  intro K dvs f fd F h q hq
  cases hq
theorem k_sum_of : BindK d_sum_of ["ratios"] 0 [] := by
  intro K dvs f fd F h q hq
  cases hq
theorem k_ratio_text : BindK d_ratio_text ["one"] 0 [] := by
  intro K dvs f fd F h q hq
  cases hq
theorem k__law_hand : BindK d__law_hand ["_law_script"] 0 [] := by
  intro K dvs f fd F h q hq
  cases hq
theorem k__law_mixed : BindK d__law_mixed ["_law_number", "_law_turn"] 0 [] := by
  intro K dvs f fd F h q hq
  cases hq
theorem k__law_take : BindK d__law_take ["_law_hand_here", "_law_many"] 0 [] := by
  intro K dvs f fd F h q hq
  cases hq
theorem k__law_part : BindK d__law_part ["_law_one", "_law_other"] 0 [] := by
  intro K dvs f fd F h q hq
  cases hq
theorem k__law_ratio : BindK d__law_ratio ["_law_top", "_law_bottom"] 0 [] := by
  intro K dvs f fd F h q hq
  cases hq
theorem k__law_plus : BindK d__law_plus ["_law_one", "_law_other"] 0 [] := by
  intro K dvs f fd F h q hq
  cases hq
theorem k__law_times : BindK d__law_times ["_law_one", "_law_other"] 0 [] := by
  intro K dvs f fd F h q hq
  cases hq
theorem k__law_whole : BindK d__law_whole ["_law_thing", "_law_low", "_law_high"] 0 [] := by
  intro K dvs f fd F h q hq
  cases hq
theorem k__law_truth : BindK d__law_truth ["_law_told", "_law_due_here"] 0 [] := by
  intro K dvs f fd F h q hq
  cases hq
theorem k__law_int : BindK d__law_int ["_law_thing"] 0 [] := by
  intro K dvs f fd F h q hq
  cases hq
theorem k__law_big : BindK d__law_big ["_law_hand_here"] 0 [] := by
  intro K dvs f fd F h q hq
  cases hq
theorem k__law_signed : BindK d__law_signed ["_law_hand_here"] 0 [] := by
  intro K dvs f fd F h q hq
  cases hq
theorem k__law_is_ratio : BindK d__law_is_ratio ["_law_thing"] 0 [] := by
  intro K dvs f fd F h q hq
  cases hq
theorem k__law_same_ratio : BindK d__law_same_ratio ["_law_told", "_law_due_here"] 0 [] := by
  intro K dvs f fd F h q hq
  cases hq
theorem k__law_make : BindK d__law_make ["_law_top", "_law_bottom"] 0 [] := by
  intro K dvs f fd F h q hq
  cases hq
theorem k__law_over : BindK d__law_over ["_law_one", "_law_other"] 0 [] := by
  intro K dvs f fd F h q hq
  cases hq
theorem k__law_number_or_odd : BindK d__law_number_or_odd ["_law_hand_here"] 0 [] := by
  intro K dvs f fd F h q hq
  cases hq
theorem k__law_due : BindK d__law_due ["_law_top", "_law_bottom"] 0 [] := by
  intro K dvs f fd F h q hq
  cases hq
theorem k__law_pair_right : BindK d__law_pair_right ["_law_one", "_law_other"] 0 [] := by
  intro K dvs f fd F h q hq
  cases hq
theorem k__law_things : BindK d__law_things ["_law_hand_here"] 0 [] := by
  intro K dvs f fd F h q hq
  cases hq
theorem k_law : BindK d_law ["_law_script"] 0 [] := by
  intro K dvs f fd F h q hq
  cases hq
theorem be : ∀ e ∈ prg.ents, BindP e.d e.ps e.dfs.length ∧ BindK e.d e.ps e.dfs.length e.kws := by
  intro e h
  rcases List.mem_cons.mp h with rfl | h
  · exact ⟨b_d_is_whole, k_is_whole⟩
  rcases List.mem_cons.mp h with rfl | h
  · exact ⟨b_d_is_ratio, k_is_ratio⟩
  rcases List.mem_cons.mp h with rfl | h
  · exact ⟨b_d_in_lowest_terms, k_in_lowest_terms⟩
  rcases List.mem_cons.mp h with rfl | h
  · exact ⟨b_d_make_ratio, k_make_ratio⟩
  rcases List.mem_cons.mp h with rfl | h
  · exact ⟨b_d_plus, k_plus⟩
  rcases List.mem_cons.mp h with rfl | h
  · exact ⟨b_d_minus, k_minus⟩
  rcases List.mem_cons.mp h with rfl | h
  · exact ⟨b_d_times, k_times⟩
  rcases List.mem_cons.mp h with rfl | h
  · exact ⟨b_d_over, k_over⟩
  rcases List.mem_cons.mp h with rfl | h
  · exact ⟨b_d_compare, k_compare⟩
  rcases List.mem_cons.mp h with rfl | h
  · exact ⟨b_d_sum_of, k_sum_of⟩
  rcases List.mem_cons.mp h with rfl | h
  · exact ⟨b_d_ratio_text, k_ratio_text⟩
  rcases List.mem_cons.mp h with rfl | h
  · exact ⟨b_d__law_hand, k__law_hand⟩
  rcases List.mem_cons.mp h with rfl | h
  · exact ⟨b_d__law_mixed, k__law_mixed⟩
  rcases List.mem_cons.mp h with rfl | h
  · exact ⟨b_d__law_take, k__law_take⟩
  rcases List.mem_cons.mp h with rfl | h
  · exact ⟨b_d__law_part, k__law_part⟩
  rcases List.mem_cons.mp h with rfl | h
  · exact ⟨b_d__law_ratio, k__law_ratio⟩
  rcases List.mem_cons.mp h with rfl | h
  · exact ⟨b_d__law_plus, k__law_plus⟩
  rcases List.mem_cons.mp h with rfl | h
  · exact ⟨b_d__law_times, k__law_times⟩
  rcases List.mem_cons.mp h with rfl | h
  · exact ⟨b_d__law_whole, k__law_whole⟩
  rcases List.mem_cons.mp h with rfl | h
  · exact ⟨b_d__law_truth, k__law_truth⟩
  rcases List.mem_cons.mp h with rfl | h
  · exact ⟨b_d__law_int, k__law_int⟩
  rcases List.mem_cons.mp h with rfl | h
  · exact ⟨b_d__law_big, k__law_big⟩
  rcases List.mem_cons.mp h with rfl | h
  · exact ⟨b_d__law_signed, k__law_signed⟩
  rcases List.mem_cons.mp h with rfl | h
  · exact ⟨b_d__law_is_ratio, k__law_is_ratio⟩
  rcases List.mem_cons.mp h with rfl | h
  · exact ⟨b_d__law_same_ratio, k__law_same_ratio⟩
  rcases List.mem_cons.mp h with rfl | h
  · exact ⟨b_d__law_make, k__law_make⟩
  rcases List.mem_cons.mp h with rfl | h
  · exact ⟨b_d__law_over, k__law_over⟩
  rcases List.mem_cons.mp h with rfl | h
  · exact ⟨b_d__law_number_or_odd, k__law_number_or_odd⟩
  rcases List.mem_cons.mp h with rfl | h
  · exact ⟨b_d__law_due, k__law_due⟩
  rcases List.mem_cons.mp h with rfl | h
  · exact ⟨b_d__law_pair_right, k__law_pair_right⟩
  rcases List.mem_cons.mp h with rfl | h
  · exact ⟨b_d__law_things, k__law_things⟩
  rcases List.mem_cons.mp h with rfl | h
  · exact ⟨b_d_law, k_law⟩
  cases h
theorem bx : ∀ e ∈ prg.exns, BindP e.d e.ps 0 := by
  intro e h
  rcases List.mem_cons.mp h with rfl | h
  · exact b_dx_BadRatio
  cases h
theorem ce : prg.ents.all entC = true := by decide +kernel
theorem cx : prg.exns.all exnC = true := by decide +kernel
/-! ### the head -/
abbrev R : PySem.W.OpenRow := PySem.W.OpenLaw.row PySem.Challenge.rw_alreadytold_k01_whole_ratios
abbrev hk : PySem.W.Hook := He.hookX 6 prg.fa prg.fn [] [] prg.exB
def ob (s : PySem.W.SharedT) : He.AlX := He.obsX 6 prg.fa prg.fn [] [] prg.exB (HandSHeadRun.getT s)
theorem ob_eq (s : PySem.W.SharedT) : ob s = hk.obs s.abs := He.obsX_eq (HandSHeadRun.getT_eq s)
def loose0 : List Str := ["BadRatio", "LetterError", "ONE", "ZERO", "_law_big", "_law_due", "_law_hand", "_law_int", "_law_is_ratio", "_law_make", "_law_mixed", "_law_number_or_odd", "_law_over", "_law_pair_right", "_law_part", "_law_plus", "_law_ratio", "_law_same_ratio", "_law_signed", "_law_take"]
def loose1 : List Str := ["_law_things", "_law_times", "_law_truth", "_law_whole", "compare", "in_lowest_terms", "is_ratio", "is_whole", "make_ratio", "minus", "over", "plus", "ratio_text", "sum_of", "times"]
def loose : List Str := loose0 ++ loose1
theorem run (w : World) : HandSHeadRun.RunEqI R (PySem.W.view R.prog [0, 39]) hk ob 4000 loose w := by
  unfold HandSHeadRun.RunEqI
  kernel_rfl
/-- what is left: the evaluator's answer -/
def Plain (n k : Nat) : Prop := ∀ ns : List Int, ns.length ≤ 63 → (∀ z ∈ ns, Builtin.Int.intBits z ≤ 1048576) → ∃ as, (mdl prg.tab n (k + 1)).call "law" [.fz (.scr (ns.map D.int))] = .ret (.bl true) false as
end LawP
open PySem PySem.W PySem.Calls PyProof.Rows
theorem LawP.ends (n k : Nat) (hr : L2.Room (k + 1) callerA) (plain : LawP.Plain n k) : PySem.Challenge.rw_alreadytold_k01_whole_ratios.Holds := by
  w_on; o_law
  refine HandSHeadRun.head_imp (r := OpenLaw.row PySem.Challenge.rw_alreadytold_k01_whole_ratios) (q := view (OpenLaw.row PySem.Challenge.rw_alreadytold_k01_whole_ratios).prog [0, 39]) (H := LawP.hk) (ob := LawP.ob) (M := 4000) (loose := LawP.loose) (d := HandSHeadRun.topDef (OpenLaw.row PySem.Challenge.rw_alreadytold_k01_whole_ratios).prog 39) (kwd := []) LawP.ob_eq
     LawP.run (by kernel_rfl) (by kernel_rfl) (by kernel_rfl) (by rfl) (by first | assumption | decide +kernel) (by decide +kernel) ⟨rfl, rfl, rfl, rfl, rfl, by decide +kernel⟩ ?hw ?hc
  case hw => w_witness2
  case hc =>
    refine LamX.walk_ofTsE (l := PySem.Challenge.rw_alreadytold_k01_whole_ratios) (n := 63) (k := k + 1) (x := "_law_script") (CX := fun w => L2.CX (PySem.Challenge.rw_alreadytold_k01_whole_ratios).prog w) rfl (by decide) (by kernel_rfl) hr ?F (fun _ _ _ _ _ z => VE.cx_no z)
    intro w mg fa h Y G hmg0
    obtain ⟨K, KX, c⟩ := Y
    have hmg : mg ("law" : PySem.Str) = some (.ref fa) := by
      have e : (HandSHeadRun.topDef (OpenLaw.row PySem.Challenge.rw_alreadytold_k01_whole_ratios).prog 39).name = ("law" : PySem.Str) := by kernel_rfl
      rw [← e]
      exact hmg0
    exact ⟨K, KX, VE.law_at (p := LawP.prg) (e := LawP.e_law) (n := n) KX G hmg c.t.d c.more LawP.ce LawP.cx LawP.be LawP.bx rfl rfl rfl (fun _ _ _ _ _ _ us hl => match us, hl with | [_], _ => rfl) plain⟩
end

section
set_option Elab.async false
set_option linter.all false
set_option maxRecDepth 100000
set_option maxHeartbeats 4000000
namespace LawP
open PySem PySem.Spec L2 VE
abbrev Mk (k : Nat) : Mdl := mdl prg.tab 60 (k + 2)
def m_is_whole (C : Str → List Sl → Cr) : XS := (sCons (sIf (tOr (tNot (tE (xIsi (xVar 0) ["int"]))) (tE (xIsi (xVar 0) ["bool"]))) (sCons (sRet (xC (.bl false))) sNil) sNil) (sCons (sIf (tAnd (tCm (xCmp .IsNot (xVar 1) (xC (.non)))) (tCm (xCmp .Lt (xVar 0) (xVar 1)))) (sCons (sRet (xC (.bl false))) sNil) sNil) (sCons (sRet (xOr (xCmp .Is (xVar 2) (xC (.non))) (xCmp .LtE (xVar 0) (xVar 2)))) sNil)))
theorem mo_is_whole (k : Nat) : (ev (Mk k) e_is_whole.N 60).ss e_is_whole.d.scope e_is_whole.d.body = m_is_whole (Mk k).call := by rfl
def m_is_ratio (C : Str → List Sl → Cr) : XS := (sCons (sIf (tOr (tNot (tE (xIsi (xVar 0) ["tuple"]))) (tCm (xCmp .NotEq (xBi "len" (xACons (xVar 0) xANil)) (xC (.int (2)))))) (sCons (sRet (xC (.bl false))) sNil) sNil) (sCons (sIf (tOr (tNot (tE (xOwn (C "is_whole") [.non, .non] (xACons (xIx (xVar 0) (xC (.int (0)))) xANil)))) (tNot (tE (xOwn (C "is_whole") [.non] (xACons (xIx (xVar 0) (xC (.int (1)))) (xACons (xC (.int (1))) xANil)))))) (sCons (sRet (xC (.bl false))) sNil) sNil) (sCons (sRet (xCmp .Eq (xGcd (xACons (xIx (xVar 0) (xC (.int (0)))) (xACons (xIx (xVar 0) (xC (.int (1)))) xANil))) (xC (.int (1))))) sNil)))
theorem mo_is_ratio (k : Nat) : (ev (Mk k) e_is_ratio.N 60).ss e_is_ratio.d.scope e_is_ratio.d.body = m_is_ratio (Mk k).call := by rfl
def m_in_lowest_terms (C : Str → List Sl → Cr) : XS := (sCons (sSet 2 (xGcd (xACons (xVar 0) (xACons (xVar 1) xANil)))) (sCons (sRet (xTup (xCons (xBin .FloorDiv (xVar 0) (xVar 2)) (xCons (xBin .FloorDiv (xVar 1) (xVar 2)) xNil)))) sNil))
theorem mo_in_lowest_terms (k : Nat) : (ev (Mk k) e_in_lowest_terms.N 60).ss e_in_lowest_terms.d.scope e_in_lowest_terms.d.body = m_in_lowest_terms (Mk k).call := by rfl
def m_make_ratio (C : Str → List Sl → Cr) : XS := (sCons (sIf (tNot (tE (xOwn (C "is_whole") [.non, .non] (xACons (xVar 0) xANil)))) (sCons (sRaise "BadRatio" (LawP.prg.tab.mkx "BadRatio") (xCons (xC (.str (PySem.Str.ofString "top"))) xNil)) sNil) sNil) (sCons (sIf (tOr (tNot (tE (xOwn (C "is_whole") [.non, .non] (xACons (xVar 1) xANil)))) (tCm (xCmp .Eq (xVar 1) (xC (.int (0)))))) (sCons (sRaise "BadRatio" (LawP.prg.tab.mkx "BadRatio") (xCons (xC (.str (PySem.Str.ofString "bottom"))) xNil)) sNil) sNil) (sCons (sIf (tCm (xCmp .Lt (xVar 1) (xC (.int (0))))) (sCons (sRet (xOwn (C "in_lowest_terms") [] (xACons (xNeg (xVar 0)) (xACons (xNeg (xVar 1)) xANil)))) sNil) sNil) (sCons (sRet (xOwn (C "in_lowest_terms") [] (xACons (xVar 0) (xACons (xVar 1) xANil)))) sNil))))
theorem mo_make_ratio (k : Nat) : (ev (Mk k) e_make_ratio.N 60).ss e_make_ratio.d.scope e_make_ratio.d.body = m_make_ratio (Mk k).call := by rfl
def m_plus (C : Str → List Sl → Cr) : XS := (sCons (sIf (tAnd (tCm (xCmp .Eq (xIx (xVar 0) (xC (.int (1)))) (xC (.int (1))))) (tCm (xCmp .Eq (xIx (xVar 1) (xC (.int (1)))) (xC (.int (1)))))) (sCons (sRet (xTup (xCons (xBin .Add (xIx (xVar 0) (xC (.int (0)))) (xIx (xVar 1) (xC (.int (0))))) (xCons (xC (.int (1))) xNil)))) sNil) sNil) (sCons (sRet (xOwn (C "in_lowest_terms") [] (xACons (xBin .Add (xBin .Mult (xIx (xVar 0) (xC (.int (0)))) (xIx (xVar 1) (xC (.int (1))))) (xBin .Mult (xIx (xVar 1) (xC (.int (0)))) (xIx (xVar 0) (xC (.int (1)))))) (xACons (xBin .Mult (xIx (xVar 0) (xC (.int (1)))) (xIx (xVar 1) (xC (.int (1))))) xANil)))) sNil))
theorem mo_plus (k : Nat) : (ev (Mk k) e_plus.N 60).ss e_plus.d.scope e_plus.d.body = m_plus (Mk k).call := by rfl
def m_minus (C : Str → List Sl → Cr) : XS := (sCons (sRet (xOwn (C "in_lowest_terms") [] (xACons (xBin .Sub (xBin .Mult (xIx (xVar 0) (xC (.int (0)))) (xIx (xVar 1) (xC (.int (1))))) (xBin .Mult (xIx (xVar 1) (xC (.int (0)))) (xIx (xVar 0) (xC (.int (1)))))) (xACons (xBin .Mult (xIx (xVar 0) (xC (.int (1)))) (xIx (xVar 1) (xC (.int (1))))) xANil)))) sNil)
theorem mo_minus (k : Nat) : (ev (Mk k) e_minus.N 60).ss e_minus.d.scope e_minus.d.body = m_minus (Mk k).call := by rfl
def m_times (C : Str → List Sl → Cr) : XS := (sCons (sRet (xOwn (C "in_lowest_terms") [] (xACons (xBin .Mult (xIx (xVar 0) (xC (.int (0)))) (xIx (xVar 1) (xC (.int (0))))) (xACons (xBin .Mult (xIx (xVar 0) (xC (.int (1)))) (xIx (xVar 1) (xC (.int (1))))) xANil)))) sNil)
theorem mo_times (k : Nat) : (ev (Mk k) e_times.N 60).ss e_times.d.scope e_times.d.body = m_times (Mk k).call := by rfl
def m_over (C : Str → List Sl → Cr) : XS := (sCons (sIf (tCm (xCmp .Eq (xIx (xVar 1) (xC (.int (0)))) (xC (.int (0))))) (sCons (sRaise "BadRatio" (LawP.prg.tab.mkx "BadRatio") (xCons (xC (.str (PySem.Str.ofString "zero"))) xNil)) sNil) sNil) (sCons (sRet (xOwn (C "make_ratio") [] (xACons (xBin .Mult (xIx (xVar 0) (xC (.int (0)))) (xIx (xVar 1) (xC (.int (1))))) (xACons (xBin .Mult (xIx (xVar 0) (xC (.int (1)))) (xIx (xVar 1) (xC (.int (0))))) xANil)))) sNil))
theorem mo_over (k : Nat) : (ev (Mk k) e_over.N 60).ss e_over.d.scope e_over.d.body = m_over (Mk k).call := by rfl
def m_compare (C : Str → List Sl → Cr) : XS := (sCons (sSet 2 (xBin .Sub (xBin .Mult (xIx (xVar 0) (xC (.int (0)))) (xIx (xVar 1) (xC (.int (1))))) (xBin .Mult (xIx (xVar 1) (xC (.int (0)))) (xIx (xVar 0) (xC (.int (1))))))) (sCons (sIf (tCm (xCmp .Eq (xVar 2) (xC (.int (0))))) (sCons (sRet (xC (.int (0)))) sNil) sNil) (sCons (sRet (xIte (tCm (xCmp .Gt (xVar 2) (xC (.int (0))))) (xC (.int (1))) (xNeg (xC (.int (1)))))) sNil)))
theorem mo_compare (k : Nat) : (ev (Mk k) e_compare.N 60).ss e_compare.d.scope e_compare.d.body = m_compare (Mk k).call := by rfl
def m_sum_of (C : Str → List Sl → Cr) : XS := (sCons (sSet 1 (xC (.tup [.int (0), .int (1)]))) (sCons (sFor (iGen (xVar 0)) (agI 2) (sCons (sSet 1 (xOwn (C "plus") [] (xACons (xVar 1) (xACons (xVar 2) xANil)))) sNil)) (sCons (sRet (xVar 1)) sNil)))
theorem mo_sum_of (k : Nat) : (ev (Mk k) e_sum_of.N 60).ss e_sum_of.d.scope e_sum_of.d.body = m_sum_of (Mk k).call := by rfl
def m_ratio_text (C : Str → List Sl → Cr) : XS := (sCons (sIf (tCm (xCmp .Eq (xIx (xVar 0) (xC (.int (1)))) (xC (.int (1))))) (sCons (sRet (xBi "str" (xACons (xIx (xVar 0) (xC (.int (0)))) xANil))) sNil) sNil) (sCons (sRet (xJoin (xJ (xFmt (xIx (xVar 0) (xC (.int (0))))) (xJ (xC (.str (PySem.Str.ofString "/"))) (xJ (xFmt (xIx (xVar 0) (xC (.int (1))))) xJ0))))) sNil))
theorem mo_ratio_text (k : Nat) : (ev (Mk k) e_ratio_text.N 60).ss e_ratio_text.d.scope e_ratio_text.d.body = m_ratio_text (Mk k).call := by rfl
def m__law_hand (C : Str → List Sl → Cr) : XS := (sCons (sSet 1 (xBin .Add (xBi "len" (xACons (xVar 0) xANil)) (xC (.int (71))))) (sCons (sSet 2 (xLst xNil)) (sCons (sFor (iGen (xVar 0)) (agI 3) (sCons (sSet 1 (xBin .Mod (xBi "int" (xACons (xBin .Add (xBin .Mult (xVar 1) (xC (.int (1033)))) (xBi "int" (xACons (xVar 3) xANil))) xANil)) (xC (.int (2147483563))))) (sCons (sDrop (xApp 2 (xBi "abs" (xACons (xBi "int" (xACons (xVar 3) xANil)) xANil)))) sNil))) (sCons (sRet (xLst (xCons (xVar 2) (xCons (xC (.int (0))) (xCons (xC (.int (0))) (xCons (xVar 1) xNil)))))) sNil))))
theorem mo__law_hand (k : Nat) : (ev (Mk k) e__law_hand.N 60).ss e__law_hand.d.scope e__law_hand.d.body = m__law_hand (Mk k).call := by rfl
def m__law_mixed (C : Str → List Sl → Cr) : XS := (sCons (sSet 2 (xBin .Mod (xBi "int" (xACons (xBin .Add (xBin .Add (xBin .Mult (xVar 0) (xC (.int (40692)))) (xBin .Mult (xVar 1) (xC (.int (8117))))) (xC (.int (50821)))) xANil)) (xC (.int (2147483399))))) (sCons (sSet 3 (xBin .Mod (xBi "int" (xACons (xBin .Add (xBin .Add (xBin .Mult (xVar 2) (xVar 2)) (xBin .Mult (xVar 1) (xC (.int (104717))))) (xBin .FloorDiv (xVar 2) (xC (.int (127))))) xANil)) (xC (.int (2147483629))))) (sCons (sRet (xBin .FloorDiv (xBi "int" (xACons (xBin .Mod (xBi "int" (xACons (xBin .Add (xBin .Mult (xVar 3) (xC (.int (16807)))) (xBin .FloorDiv (xVar 2) (xC (.int (11))))) xANil)) (xC (.int (2147483587)))) xANil)) (xC (.int (32))))) sNil)))
theorem mo__law_mixed (k : Nat) : (ev (Mk k) e__law_mixed.N 60).ss e__law_mixed.d.scope e__law_mixed.d.body = m__law_mixed (Mk k).call := by rfl
def m__law_take (C : Str → List Sl → Cr) : XS := (sCons (sIf (tAnd (tCm (xCmp .Eq (xIx (xVar 0) (xC (.int (2)))) (xC (.int (0))))) (tCm (xCmp .Lt (xIx (xVar 0) (xC (.int (1)))) (xBi "len" (xACons (xIx (xVar 0) (xC (.int (0)))) xANil))))) (sCons (sSet 2 (xIx (xIx (xVar 0) (xC (.int (0)))) (xIx (xVar 0) (xC (.int (1)))))) (sCons (sSub (xVar 0) (xC (.int (1))) (xBin .Add (xIx (xVar 0) (xC (.int (1)))) (xC (.int (1))))) (sCons (sIf (tCm (xCmp .Lt (xVar 2) (xBin .Pow (xC (.int (10))) (xC (.int (18)))))) (sCons (sRet (xBin .Mod (xBi "int" (xACons (xOwn (C "_law_mixed") [] (xACons (xBin .Mod (xBi "int" (xACons (xVar 2) xANil)) (xC (.int (2147483399)))) (xACons (xIx (xVar 0) (xC (.int (1)))) xANil))) xANil)) (xVar 1))) sNil) sNil) (sCons (sSub (xVar 0) (xC (.int (2))) (xVar 2)) sNil)))) sNil) (sCons (sIf (tCm (xCmp .Gt (xIx (xVar 0) (xC (.int (2)))) (xC (.int (0))))) (sCons (sSet 3 (xIx (xVar 0) (xC (.int (2))))) (sCons (sSub (xVar 0) (xC (.int (2))) (xBin .FloorDiv (xBi "int" (xACons (xVar 3) xANil)) (xVar 1))) (sCons (sRet (xBin .Mod (xBi "int" (xACons (xVar 3) xANil)) (xVar 1))) sNil))) sNil) (sCons (sSub (xVar 0) (xC (.int (3))) (xBin .Mod (xBi "int" (xACons (xBin .Add (xIx (xVar 0) (xC (.int (3)))) (xC (.int (1)))) xANil)) (xC (.int (2147483563))))) (sCons (sRet (xBin .Mod (xBi "int" (xACons (xOwn (C "_law_mixed") [] (xACons (xIx (xVar 0) (xC (.int (3)))) (xACons (xIx (xVar 0) (xC (.int (1)))) xANil))) xANil)) (xVar 1))) sNil))))
theorem mo__law_take (k : Nat) : (ev (Mk k) e__law_take.N 60).ss e__law_take.d.scope e__law_take.d.body = m__law_take (Mk k).call := by rfl
def m__law_part (C : Str → List Sl → Cr) : XS := (sCons (sSet 0 (xBi "abs" (xACons (xVar 0) xANil))) (sCons (sSet 1 (xBi "abs" (xACons (xVar 1) xANil))) (sCons (sFor (iRng1 (xC (.int (4000)))) (agI 2) (sCons (sIf (tCm (xCmp .Eq (xVar 1) (xC (.int (0))))) (sCons sBrk sNil) sNil) (sCons (sPar 0 1 (xCons (xVar 1) (xCons (xBin .Mod (xBi "int" (xACons (xVar 0) xANil)) (xVar 1)) xNil))) sNil))) (sCons (sRet (xVar 0)) sNil))))
theorem mo__law_part (k : Nat) : (ev (Mk k) e__law_part.N 60).ss e__law_part.d.scope e__law_part.d.body = m__law_part (Mk k).call := by rfl
def m__law_ratio (C : Str → List Sl → Cr) : XS := (sCons (sIf (tCm (xCmp .Lt (xVar 1) (xC (.int (0))))) (sCons (sSet 0 (xNeg (xVar 0))) (sCons (sSet 1 (xNeg (xVar 1))) sNil)) sNil) (sCons (sSet 2 (xOwn (C "_law_part") [] (xACons (xVar 0) (xACons (xVar 1) xANil)))) (sCons (sRet (xTup (xCons (xBin .FloorDiv (xVar 0) (xVar 2)) (xCons (xBin .FloorDiv (xVar 1) (xVar 2)) xNil)))) sNil)))
theorem mo__law_ratio (k : Nat) : (ev (Mk k) e__law_ratio.N 60).ss e__law_ratio.d.scope e__law_ratio.d.body = m__law_ratio (Mk k).call := by rfl
def m__law_plus (C : Str → List Sl → Cr) : XS := (sCons (sRet (xOwn (C "_law_ratio") [] (xACons (xBin .Add (xBin .Mult (xIx (xVar 0) (xC (.int (0)))) (xIx (xVar 1) (xC (.int (1))))) (xBin .Mult (xIx (xVar 1) (xC (.int (0)))) (xIx (xVar 0) (xC (.int (1)))))) (xACons (xBin .Mult (xIx (xVar 0) (xC (.int (1)))) (xIx (xVar 1) (xC (.int (1))))) xANil)))) sNil)
theorem mo__law_plus (k : Nat) : (ev (Mk k) e__law_plus.N 60).ss e__law_plus.d.scope e__law_plus.d.body = m__law_plus (Mk k).call := by rfl
def m__law_times (C : Str → List Sl → Cr) : XS := (sCons (sRet (xOwn (C "_law_ratio") [] (xACons (xBin .Mult (xIx (xVar 0) (xC (.int (0)))) (xIx (xVar 1) (xC (.int (0))))) (xACons (xBin .Mult (xIx (xVar 0) (xC (.int (1)))) (xIx (xVar 1) (xC (.int (1))))) xANil)))) sNil)
theorem mo__law_times (k : Nat) : (ev (Mk k) e__law_times.N 60).ss e__law_times.d.scope e__law_times.d.body = m__law_times (Mk k).call := by rfl
def m__law_whole (C : Str → List Sl → Cr) : XS := (sCons (sRet (xAnd (xIsi (xVar 0) ["int"]) (xAnd (xNot (xIsi (xVar 0) ["bool"])) (xCmp2 .LtE .LtE (xVar 1) (xVar 0) (xVar 2))))) sNil)
theorem mo__law_whole (k : Nat) : (ev (Mk k) e__law_whole.N 60).ss e__law_whole.d.scope e__law_whole.d.body = m__law_whole (Mk k).call := by rfl
def m__law_truth (C : Str → List Sl → Cr) : XS := (sCons (sRet (xAnd (xIsi (xVar 0) ["bool"]) (xCmp .Eq (xVar 0) (xVar 1)))) sNil)
theorem mo__law_truth (k : Nat) : (ev (Mk k) e__law_truth.N 60).ss e__law_truth.d.scope e__law_truth.d.body = m__law_truth (Mk k).call := by rfl
def m__law_int (C : Str → List Sl → Cr) : XS := (sCons (sRet (xAnd (xIsi (xVar 0) ["int"]) (xNot (xIsi (xVar 0) ["bool"])))) sNil)
theorem mo__law_int (k : Nat) : (ev (Mk k) e__law_int.N 60).ss e__law_int.d.scope e__law_int.d.body = m__law_int (Mk k).call := by rfl
def m__law_big (C : Str → List Sl → Cr) : XS := (sCons (sRet (xOwn (C "_law_take") [] (xACons (xVar 0) (xACons (xIx (xTup (xCons (xC (.int (7))) (xCons (xBin .Pow (xC (.int (10))) (xC (.int (6)))) (xCons (xBin .Pow (xC (.int (10))) (xC (.int (18)))) (xCons (xBin .Pow (xC (.int (10))) (xC (.int (9)))) xNil))))) (xOwn (C "_law_take") [] (xACons (xVar 0) (xACons (xC (.int (4))) xANil)))) xANil)))) sNil)
theorem mo__law_big (k : Nat) : (ev (Mk k) e__law_big.N 60).ss e__law_big.d.scope e__law_big.d.body = m__law_big (Mk k).call := by rfl
def m__law_signed (C : Str → List Sl → Cr) : XS := (sCons (sSet 1 (xOwn (C "_law_big") [] (xACons (xVar 0) xANil))) (sCons (sRet (xIte (tE (xOwn (C "_law_take") [] (xACons (xVar 0) (xACons (xC (.int (2))) xANil)))) (xNeg (xVar 1)) (xVar 1))) sNil))
theorem mo__law_signed (k : Nat) : (ev (Mk k) e__law_signed.N 60).ss e__law_signed.d.scope e__law_signed.d.body = m__law_signed (Mk k).call := by rfl
def m__law_is_ratio (C : Str → List Sl → Cr) : XS := (sCons (sIf (tOr (tNot (tE (xIsi (xVar 0) ["tuple"]))) (tOr (tCm (xCmp .NotEq (xBi "len" (xACons (xVar 0) xANil)) (xC (.int (2))))) (tOr (tNot (tE (xOwn (C "_law_int") [] (xACons (xIx (xVar 0) (xC (.int (0)))) xANil)))) (tNot (tE (xOwn (C "_law_int") [] (xACons (xIx (xVar 0) (xC (.int (1)))) xANil))))))) (sCons (sRet (xC (.bl false))) sNil) sNil) (sCons (sRet (xAnd (xCmp .Gt (xIx (xVar 0) (xC (.int (1)))) (xC (.int (0)))) (xCmp .Eq (xOwn (C "_law_part") [] (xACons (xIx (xVar 0) (xC (.int (0)))) (xACons (xIx (xVar 0) (xC (.int (1)))) xANil))) (xC (.int (1)))))) sNil))
theorem mo__law_is_ratio (k : Nat) : (ev (Mk k) e__law_is_ratio.N 60).ss e__law_is_ratio.d.scope e__law_is_ratio.d.body = m__law_is_ratio (Mk k).call := by rfl
def m__law_same_ratio (C : Str → List Sl → Cr) : XS := (sCons (sRet (xAnd (xOwn (C "_law_is_ratio") [] (xACons (xVar 0) xANil)) (xCmp .Eq (xVar 0) (xVar 1)))) sNil)
theorem mo__law_same_ratio (k : Nat) : (ev (Mk k) e__law_same_ratio.N 60).ss e__law_same_ratio.d.scope e__law_same_ratio.d.body = m__law_same_ratio (Mk k).call := by rfl
def m__law_make (C : Str → List Sl → Cr) : XS := (sCons (sTry (fun x => LawP.prg.tab.isx x "BadRatio") 2 (sCons (sSet 3 (xOwn (C "make_ratio") [] (xACons (xVar 0) (xACons (xVar 1) xANil)))) sNil) (qSet 3 (qFld LawP.prg.tab.fok "what"))) (sCons (sRet (xVar 3)) sNil))
theorem mo__law_make (k : Nat) : (ev (Mk k) e__law_make.N 60).ss e__law_make.d.scope e__law_make.d.body = m__law_make (Mk k).call := by rfl
def m__law_over (C : Str → List Sl → Cr) : XS := (sCons (sTry (fun x => LawP.prg.tab.isx x "BadRatio") 2 (sCons (sSet 3 (xOwn (C "over") [] (xACons (xVar 0) (xACons (xVar 1) xANil)))) sNil) (qSet 3 (qFld LawP.prg.tab.fok "what"))) (sCons (sRet (xVar 3)) sNil))
theorem mo__law_over (k : Nat) : (ev (Mk k) e__law_over.N 60).ss e__law_over.d.scope e__law_over.d.body = m__law_over (Mk k).call := by rfl
def m__law_number_or_odd (C : Str → List Sl → Cr) : XS := (sCons (sIf (tCm (xCmp .Eq (xOwn (C "_law_take") [] (xACons (xVar 0) (xACons (xC (.int (5))) xANil))) (xC (.int (0))))) (sCons (sRet (xIx (xTup (xCons (xC (.bl true)) (xCons (xC (.bl false)) (xCons (xC (.non)) (xCons (xC (.str (PySem.Str.ofString "3"))) (xCons (xTup (xCons (xC (.int (1))) (xCons (xC (.int (2))) xNil))) (xCons (xC (.str (PySem.Str.ofString ""))) xNil))))))) (xOwn (C "_law_take") [] (xACons (xVar 0) (xACons (xC (.int (6))) xANil))))) sNil) sNil) (sCons (sRet (xOwn (C "_law_signed") [] (xACons (xVar 0) xANil))) sNil))
theorem mo__law_number_or_odd (k : Nat) : (ev (Mk k) e__law_number_or_odd.N 60).ss e__law_number_or_odd.d.scope e__law_number_or_odd.d.body = m__law_number_or_odd (Mk k).call := by rfl
def m__law_due (C : Str → List Sl → Cr) : XS := (sCons (sIf (tNot (tE (xOwn (C "_law_int") [] (xACons (xVar 0) xANil)))) (sCons (sRet (xC (.str (PySem.Str.ofString "top")))) sNil) sNil) (sCons (sIf (tOr (tNot (tE (xOwn (C "_law_int") [] (xACons (xVar 1) xANil)))) (tCm (xCmp .Eq (xVar 1) (xC (.int (0)))))) (sCons (sRet (xC (.str (PySem.Str.ofString "bottom")))) sNil) sNil) (sCons (sRet (xOwn (C "_law_ratio") [] (xACons (xVar 0) (xACons (xVar 1) xANil)))) sNil)))
theorem mo__law_due (k : Nat) : (ev (Mk k) e__law_due.N 60).ss e__law_due.d.scope e__law_due.d.body = m__law_due (Mk k).call := by rfl
def m__law_pair_right (C : Str → List Sl → Cr) : XS := (sCons (sIf (tOr (tNot (tE (xOwn (C "_law_same_ratio") [] (xACons (xOwn (C "plus") [] (xACons (xVar 0) (xACons (xVar 1) xANil))) (xACons (xOwn (C "_law_plus") [] (xACons (xVar 0) (xACons (xVar 1) xANil))) xANil))))) (tNot (tE (xOwn (C "_law_same_ratio") [] (xACons (xOwn (C "times") [] (xACons (xVar 0) (xACons (xVar 1) xANil))) (xACons (xOwn (C "_law_times") [] (xACons (xVar 0) (xACons (xVar 1) xANil))) xANil)))))) (sCons (sRet (xC (.bl false))) sNil) sNil) (sCons (sSet 2 (xBin .Mult (xIx (xVar 0) (xC (.int (0)))) (xIx (xVar 1) (xC (.int (1)))))) (sCons (sSet 3 (xBin .Mult (xIx (xVar 1) (xC (.int (0)))) (xIx (xVar 0) (xC (.int (1)))))) (sCons (sIf (tNot (tE (xOwn (C "_law_same_ratio") [] (xACons (xOwn (C "minus") [] (xACons (xVar 0) (xACons (xVar 1) xANil))) (xACons (xOwn (C "_law_ratio") [] (xACons (xBin .Sub (xVar 2) (xVar 3)) (xACons (xBin .Mult (xIx (xVar 0) (xC (.int (1)))) (xIx (xVar 1) (xC (.int (1))))) xANil))) xANil))))) (sCons (sRet (xC (.bl false))) sNil) sNil) (sCons (sSet 4 (xOwn (C "compare") [] (xACons (xVar 0) (xACons (xVar 1) xANil)))) (sCons (sIf (tOr (tNot (tE (xOwn (C "_law_int") [] (xACons (xVar 4) xANil)))) (tCm (xCmp .NotEq (xVar 4) (xIte (tCm (xCmp .Eq (xVar 2) (xVar 3))) (xC (.int (0))) (xIte (tCm (xCmp .Gt (xVar 2) (xVar 3))) (xC (.int (1))) (xNeg (xC (.int (1))))))))) (sCons (sRet (xC (.bl false))) sNil) sNil) (sCons (sSet 5 (xOwn (C "_law_over") [] (xACons (xVar 0) (xACons (xVar 1) xANil)))) (sCons (sIf (tCm (xCmp .Eq (xIx (xVar 1) (xC (.int (0)))) (xC (.int (0))))) (sCons (sRet (xCmp .Eq (xVar 5) (xC (.str (PySem.Str.ofString "zero"))))) sNil) sNil) (sCons (sRet (xOwn (C "_law_same_ratio") [] (xACons (xVar 5) (xACons (xOwn (C "_law_ratio") [] (xACons (xBin .Mult (xIx (xVar 0) (xC (.int (0)))) (xIx (xVar 1) (xC (.int (1))))) (xACons (xBin .Mult (xIx (xVar 0) (xC (.int (1)))) (xIx (xVar 1) (xC (.int (0))))) xANil))) xANil)))) sNil)))))))))
theorem mo__law_pair_right (k : Nat) : (ev (Mk k) e__law_pair_right.N 60).ss e__law_pair_right.d.scope e__law_pair_right.d.body = m__law_pair_right (Mk k).call := by rfl
def m__law_things (C : Str → List Sl → Cr) : XS := (sCons (sSet 1 (xBin .Add (xC (.int (1))) (xOwn (C "_law_big") [] (xACons (xVar 0) xANil)))) (sCons (sRet (xLst (xCons (xTup (xCons (xBin .Mult (xC (.int (2))) (xVar 1)) (xCons (xC (.int (4))) xNil))) (xCons (xTup (xCons (xVar 1) (xCons (xC (.int (0))) xNil))) (xCons (xTup (xCons (xVar 1) (xCons (xNeg (xC (.int (1)))) xNil))) (xCons (xTup (xCons (xC (.bl true)) (xCons (xC (.int (1))) xNil))) (xCons (xTup (xCons (xC (.int (1))) (xCons (xC (.bl true)) xNil))) (xCons (xLst (xCons (xC (.int (1))) (xCons (xC (.int (2))) xNil))) (xCons (xTup (xCons (xC (.int (1))) (xCons (xC (.int (2))) (xCons (xC (.int (3))) xNil)))) (xCons (xTup (xCons (xC (.int (0))) (xCons (xVar 1) xNil))) (xCons (xVar 1) (xCons (xC (.non)) (xCons (xC (.str (PySem.Str.ofString "1/2"))) (xCons (xTup (xCons (xVar 1) (xCons (xBin .Add (xVar 1) (xC (.int (1)))) xNil))) (xCons (xTup (xCons (xNeg (xVar 1)) (xCons (xC (.int (1))) xNil))) (xCons (xTup xNil) xNil)))))))))))))))) sNil))
theorem mo__law_things (k : Nat) : (ev (Mk k) e__law_things.N 60).ss e__law_things.d.scope e__law_things.d.body = m__law_things (Mk k).call := by rfl
def m_law (C : Str → List Sl → Cr) : XS := (sCons (sSet 1 (xOwn (C "_law_hand") [] (xACons (xVar 0) xANil))) (sCons (sFor (iRng1 (xC (.int (4)))) (agI 2) (sCons (sSet 10 (xOwn (C "_law_number_or_odd") [] (xACons (xVar 1) xANil))) (sCons (sSet 11 (xOwn (C "_law_number_or_odd") [] (xACons (xVar 1) xANil))) (sCons (sIf (tCm (xCmp .Eq (xOwn (C "_law_take") [] (xACons (xVar 1) (xACons (xC (.int (6))) xANil))) (xC (.int (0))))) (sCons (sSet 11 (xC (.int (0)))) sNil) sNil) (sCons (sSet 12 (xOwn (C "_law_due") [] (xACons (xVar 10) (xACons (xVar 11) xANil)))) (sCons (sSet 13 (xOwn (C "_law_make") [] (xACons (xVar 10) (xACons (xVar 11) xANil)))) (sCons (sIf (tOr (tCm (xCmp .NotEq (xVar 13) (xVar 12))) (tAnd (tE (xIsi (xVar 12) ["tuple"])) (tNot (tE (xOwn (C "_law_is_ratio") [] (xACons (xVar 13) xANil)))))) (sCons (sRet (xC (.bl false))) sNil) sNil) sNil))))))) (sCons (sSet 3 (xOwn (C "_law_signed") [] (xACons (xVar 1) xANil))) (sCons (sIf (tOr (tNot (tE (xOwn (C "_law_same_ratio") [] (xACons (xOwn (C "make_ratio") [.int (1)] (xACons (xVar 3) xANil)) (xACons (xTup (xCons (xVar 3) (xCons (xC (.int (1))) xNil))) xANil))))) (tOr (tNot (tE (xOwn (C "_law_same_ratio") [] (xACons (xC (.tup [.int (0), .int (1)])) (xACons (xTup (xCons (xC (.int (0))) (xCons (xC (.int (1))) xNil))) xANil))))) (tNot (tE (xOwn (C "_law_same_ratio") [] (xACons (xC (.tup [.int (1), .int (1)])) (xACons (xTup (xCons (xC (.int (1))) (xCons (xC (.int (1))) xNil))) xANil))))))) (sCons (sRet (xC (.bl false))) sNil) sNil) (sCons (sSet 4 (xComp [2] (iRng1 (xBin .Add (xC (.int (2))) (xOwn (C "_law_take") [] (xACons (xVar 1) (xACons (xC (.int (5))) xANil))))) (agI 2) tYes (xOwn (C "_law_ratio") [] (xACons (xOwn (C "_law_signed") [] (xACons (xVar 1) xANil)) (xACons (xBin .Add (xC (.int (1))) (xOwn (C "_law_big") [] (xACons (xVar 1) xANil))) xANil))))) (sCons (sDrop (xApp 4 (xIx (xVar 4) (xOwn (C "_law_take") [] (xACons (xVar 1) (xACons (xBi "len" (xACons (xVar 4) xANil)) xANil)))))) (sCons (sDrop (xApp 4 (xTup (xCons (xC (.int (0))) (xCons (xC (.int (1))) xNil))))) (sCons (sSet 5 (xTup (xCons (xC (.int (0))) (xCons (xC (.int (1))) xNil)))) (sCons (sFor (iGen (xVar 4)) (agI 6) (sCons (sSet 5 (xOwn (C "_law_plus") [] (xACons (xVar 5) (xACons (xVar 6) xANil)))) (sCons (sIf (tOr (tCm (xCmp .NotEq (xOwn (C "ratio_text") [] (xACons (xVar 6) xANil)) (xIte (tCm (xCmp .Eq (xIx (xVar 6) (xC (.int (1)))) (xC (.int (1))))) (xBi "str" (xACons (xIx (xVar 6) (xC (.int (0)))) xANil)) (xBin .Add (xBin .Add (xBi "str" (xACons (xIx (xVar 6) (xC (.int (0)))) xANil)) (xC (.str (PySem.Str.ofString "/")))) (xBi "str" (xACons (xIx (xVar 6) (xC (.int (1)))) xANil)))))) (tCm (xCmp .IsNot (xOwn (C "is_ratio") [] (xACons (xVar 6) xANil)) (xC (.bl true))))) (sCons (sRet (xC (.bl false))) sNil) sNil) (sCons (sFor (iGen (xVar 4)) (agI 14) (sCons (sIf (tNot (tE (xOwn (C "_law_pair_right") [] (xACons (xVar 6) (xACons (xVar 14) xANil))))) (sCons (sRet (xC (.bl false))) sNil) sNil) sNil)) sNil)))) (sCons (sIf (tOr (tNot (tE (xOwn (C "_law_same_ratio") [] (xACons (xOwn (C "sum_of") [] (xACons (xVar 4) xANil)) (xACons (xVar 5) xANil))))) (tOr (tNot (tE (xOwn (C "_law_same_ratio") [] (xACons (xOwn (C "sum_of") [] (xACons (xBi "tuple" (xACons (xVar 4) xANil)) xANil)) (xACons (xVar 5) xANil))))) (tCm (xCmp .NotEq (xOwn (C "sum_of") [] (xACons (xLst xNil) xANil)) (xTup (xCons (xC (.int (0))) (xCons (xC (.int (1))) xNil))))))) (sCons (sRet (xC (.bl false))) sNil) sNil) (sCons (sSet 7 (xOwn (C "_law_signed") [] (xACons (xVar 1) xANil))) (sCons (sSet 8 (xBin .Add (xVar 7) (xOwn (C "_law_take") [] (xACons (xVar 1) (xACons (xC (.int (3))) xANil))))) (sCons (sFor (iGen (xOwn (C "_law_things") [] (xACons (xVar 1) xANil))) (agI 9) (sCons (sIf (tOr (tNot (tE (xOwn (C "_law_truth") [] (xACons (xOwn (C "is_ratio") [] (xACons (xVar 9) xANil)) (xACons (xOwn (C "_law_is_ratio") [] (xACons (xVar 9) xANil)) xANil))))) (tNot (tE (xOwn (C "_law_truth") [] (xACons (xOwn (C "is_whole") [.non, .non] (xACons (xVar 9) xANil)) (xACons (xOwn (C "_law_int") [] (xACons (xVar 9) xANil)) xANil)))))) (sCons (sRet (xC (.bl false))) sNil) sNil) sNil)) (sCons (sFor (iGen (xLst (xCons (xBin .Sub (xVar 7) (xC (.int (1)))) (xCons (xVar 7) (xCons (xVar 8) (xCons (xBin .Add (xVar 8) (xC (.int (1)))) (xCons (xC (.bl true)) (xCons (xC (.non)) (xCons (xC (.str (PySem.Str.ofString "1"))) (xCons (xTup (xCons (xVar 7) xNil)) xNil)))))))))) (agI 9) (sCons (sIf (tNot (tE (xOwn (C "_law_truth") [] (xACons (xOwn (C "is_whole") [] (xACons (xVar 9) (xACons (xVar 7) (xACons (xVar 8) xANil)))) (xACons (xOwn (C "_law_whole") [] (xACons (xVar 9) (xACons (xVar 7) (xACons (xVar 8) xANil)))) xANil))))) (sCons (sRet (xC (.bl false))) sNil) sNil) (sCons (sIf (tNot (tE (xOwn (C "_law_truth") [] (xACons (xKw (C "is_whole") 1 1 [.pos 0, .kw 0, .dfl 1] [.non, .non] (xCons (xVar 9) xNil) (xCons (xVar 7) xKw0)) (xACons (xAnd (xOwn (C "_law_int") [] (xACons (xVar 9) xANil)) (xCmp .LtE (xVar 7) (xVar 9))) xANil))))) (sCons (sRet (xC (.bl false))) sNil) sNil) (sCons (sIf (tNot (tE (xOwn (C "_law_truth") [] (xACons (xKw (C "is_whole") 1 1 [.pos 0, .dfl 0, .kw 0] [.non, .non] (xCons (xVar 9) xNil) (xCons (xVar 8) xKw0)) (xACons (xAnd (xOwn (C "_law_int") [] (xACons (xVar 9) xANil)) (xCmp .LtE (xVar 9) (xVar 8))) xANil))))) (sCons (sRet (xC (.bl false))) sNil) sNil) sNil)))) (sCons (sRet (xC (.bl true))) sNil)))))))))))))))
theorem mo_law (k : Nat) : (ev (Mk k) e_law.N 60).ss e_law.d.scope e_law.d.body = m_law (Mk k).call := by rfl
end LawP
end

section
set_option Elab.async false
set_option linter.all false
set_option maxRecDepth 100000
set_option maxHeartbeats 4000000
namespace LawP
open PySem PySem.Spec L2 VE
theorem call_eq {k : Nat} {x : Str} {e : Ent} {m : XS} (h : prg.ent x = some e) (hm : (ev (Mk k) e.N 60).ss e.d.scope e.d.body = m) {sls : List Sl} (hl : sls.length = e.ps.length) (hp : sls.all parOk = true) :
    (Mk (k + 1)).call x sls = endF sls (m (sls ++ List.replicate (e.N.length - e.ps.length) .un)) := by
  have hx : prg.tab.fns x = some e.fn := by
    show (prg.ent x).map Ent.fn = _
    rw [h]
    rfl
  have e1 : (Mk (k + 1)).call x sls = callF (Mk k) 60 e.fn sls := mdl_call hx sls
  rw [e1]
  unfold callF
  rw [if_pos (by
    show (decide (sls.length = e.ps.length) && sls.all parOk) = true
    rw [hp, hl]
    simp)]
  rw [← hm]
  rfl
theorem log2_lt {i : Int} {n : Nat} (h : i.natAbs < 2 ^ n) (hn : 0 < n) : i.natAbs.log2 < n := by
  by_cases z : i.natAbs = 0
  · rw [z]; simpa using hn
  · exact (Nat.log2_lt z).mpr h
/-- two numbers of at most 400000 bits may be multiplied -/
theorem mulOk_of {i j : Int} (n m : Nat) (h1 : i.natAbs < 2 ^ n) (h2 : j.natAbs < 2 ^ m) (hn : 0 < n) (hm : 0 < m) (h : n + m ≤ 1000000) : mulOk i j = true := by
  have a := log2_lt h1 hn
  have b := log2_lt h2 hm
  unfold mulOk
  apply decide_eq_true
  omega
theorem c_mixed (k : Nat) (a b : Int) (ha : 0 ≤ a) (ha2 : a < 2147483563) (hb : 0 ≤ b) (hb2 : b ≤ 100) : ∃ r : Int, (Mk (k + 1)).call "_law_mixed" [.fz (.int a), .fz (.int b)] = .ret (.int r) false [.fz (.int a), .fz (.int b)] ∧ 0 ≤ r := by
  rw [call_eq (e := e__law_mixed) rfl (mo__law_mixed k) rfl rfl]
  have g1 : mulOk a 40692 = true := mulOk_of 40 40 (by omega) (by decide) (by decide) (by decide) (by decide)
  have g2 : mulOk b 8117 = true := mulOk_of 40 40 (by omega) (by decide) (by decide) (by decide) (by decide)
  have g3 : mulOk b 104717 = true := mulOk_of 40 40 (by omega) (by decide) (by decide) (by decide) (by decide)
  have g4 : ∀ x : Int, mulOk (x % 2147483399) (x % 2147483399) = true := fun x => mulOk_of 40 40 (by omega) (by omega) (by decide) (by decide) (by decide)
  have g5 : ∀ x : Int, mulOk (x % 2147483629) 16807 = true := fun x => mulOk_of 40 40 (by omega) (by decide) (by decide) (by decide) (by decide)
  have i1 : ∀ x : Int, biD (Str.ofString "int") [.int x] = some (.int x, false) := fun x => rfl
  have d1 : divOk 127 = true := by decide
  have d2 : divOk 11 = true := by decide
  have d3 : divOk 32 = true := by decide
  simp [m__law_mixed, sCons, sSet, sRet, sNil, xBin, xBi, xACons, xANil, xVar, xC, Rs.bind, Rs.toF, Rs.of, Rf.of, deref, putI, VE.stI, mayStore, binD, binI, e__law_mixed, g1, g2, g3, g4, g5, i1, d1, d2, d3, endF, outS]
  omega
/-- the hand: cells, place, big, total -/
def HD (cells : List Int) (pos big tot : Int) : D := .lst [.lst (cells.map .int), .int pos, .int big, .int tot]
structure HOk (cells : List Int) (pos big tot : Int) : Prop where
  c : ∀ x ∈ cells, 0 ≤ x
  l : cells.length ≤ 63
  p : 0 ≤ pos ∧ pos ≤ cells.length
  b : 0 ≤ big
  t : 0 ≤ tot ∧ tot < 2147483563
theorem at40 {a b c d : D} : L2.atI [a, b, c, d] 0 = some a := rfl
theorem at41 {a b c d : D} : L2.atI [a, b, c, d] 1 = some b := rfl
theorem at42 {a b c d : D} : L2.atI [a, b, c, d] 2 = some c := rfl
theorem at43 {a b c d : D} : L2.atI [a, b, c, d] 3 = some d := rfl
theorem ix41 : ixN 4 1 = some 1 := rfl
theorem ix42 : ixN 4 2 = some 2 := rfl
theorem ix43 : ixN 4 3 = some 3 := rfl
theorem bi_len {xs : List D} : biD (Str.ofString "len") [.lst xs] = some (.int xs.length, false) := rfl
theorem bi_int {x : Int} : biD (Str.ofString "int") [.int x] = some (.int x, false) := rfl
theorem cm_eq {a b : Int} : cmpD .Eq (.int a) (.int b) = some (decide (a = b)) := rfl
theorem cm_lt {a b : Int} : cmpD .Lt (.int a) (.int b) = some (decide (a < b)) := rfl
theorem cm_gt {a b : Int} : cmpD .Gt (.int a) (.int b) = some (decide (b < a)) := rfl
theorem cell_at {cells : List Int} {pos : Int} (h1 : 0 ≤ pos) (h2 : pos < cells.length) : ∃ c, c ∈ cells ∧ L2.atI (cells.map D.int) pos = some (.int c) := by
  have h : pos.toNat < cells.length := by omega
  refine ⟨cells[pos.toNat], List.getElem_mem h, ?_⟩
  unfold L2.atI ixN
  rw [if_pos h1, if_pos (by simpa using h2)]
  simp [h]
theorem c_take (k : Nat) {cells : List Int} {pos big tot m : Int} (h : HOk cells pos big tot) (hm : 0 < m) (hm2 : m ≤ 10 ^ 18) : ∃ (r p b t : Int), (Mk (k + 2)).call "_law_take" [.ow .par (HD cells pos big tot), .fz (.int m)] = .ret (.int r) false [.ow .par (HD cells p b t), .fz (.int m)] ∧ 0 ≤ r ∧ r < m ∧ HOk cells p b t := by
  rw [call_eq (k := k + 1) (e := e__law_take) rfl (mo__law_take (k + 1)) rfl rfl]
  have hdiv : divOk m = true := by
    unfold divOk
    have : m.natAbs.log2 < 9000 := Nat.lt_of_lt_of_le (log2_lt (n := 60) (by omega) (by decide)) (by decide)
    simp [hm, this]
  have hpow : ((10 : Int) ^ 18) = 1000000000000000000 := by decide
  obtain ⟨hp0, hp1⟩ := h.p
  obtain ⟨ht0, ht1⟩ := h.t
  have hl := h.l
  by_cases hA : big = 0 ∧ pos < cells.length
  · obtain ⟨rfl, hlt⟩ := hA
    obtain ⟨c, hc, hat⟩ := cell_at hp0 hlt
    have c0 := h.c c hc
    by_cases hs : c < 1000000000000000000
    · obtain ⟨r, hr, r0⟩ := c_mixed k (c % 2147483399) (pos + 1) (by omega) (by omega) (by omega) (by omega)
      refine ⟨r % m, pos + 1, 0, tot, ?_, Int.emod_nonneg _ (by omega), Int.emod_lt_of_pos _ hm, ⟨h.c, h.l, ⟨by omega, by omega⟩, by omega, h.t⟩⟩
      simp [m__law_take, e__law_take, sCons, sSet, sRet, sNil, sIf, sSub, VE.tAnd, tCm, xCmp, xIx, xBin, xBi, xOwn, xACons, xANil, xVar, xC, Rs.bind, Rs.toF, Rs.of, Rf.of, deref, getSl, putI, VE.stI, mayStore, binD, binI, endF, outS, HD, ixD, at40, at41, at42, at43, ix41, ix42, ix43, bi_len, bi_int, cm_eq, cm_lt, cm_gt, lend, lend1, atsOf, giveBack, findArg, comb, whole, hlt, hat, hs, hr, hm, hdiv]
    · refine ⟨c % m, pos + 1, c / m, tot, ?_, Int.emod_nonneg _ (by omega), Int.emod_lt_of_pos _ hm, ⟨h.c, h.l, ⟨by omega, by omega⟩, Int.ediv_nonneg c0 (by omega), h.t⟩⟩
      have hcp : 0 < c := by omega
      simp [m__law_take, e__law_take, sCons, sSet, sRet, sNil, sIf, sSub, VE.tAnd, tCm, xCmp, xIx, xBin, xBi, xOwn, xACons, xANil, xVar, xC, Rs.bind, Rs.toF, Rs.of, Rf.of, deref, getSl, putI, VE.stI, mayStore, binD, binI, endF, outS, HD, ixD, at40, at41, at42, at43, ix41, ix42, ix43, bi_len, bi_int, cm_eq, cm_lt, cm_gt, lend, lend1, atsOf, giveBack, findArg, comb, whole, hlt, hat, hs, hm, hdiv, hcp]
  · have ht : decide (big = 0 ∧ pos < cells.length) = false := decide_eq_false hA
    by_cases hb : 0 < big
    · have hb0 : ¬ big = 0 := by omega
      refine ⟨big % m, pos, big / m, tot, ?_, Int.emod_nonneg _ (by omega), Int.emod_lt_of_pos _ hm, ⟨h.c, h.l, h.p, Int.ediv_nonneg (by omega) (by omega), h.t⟩⟩
      simp [m__law_take, e__law_take, sCons, sSet, sRet, sNil, sIf, sSub, VE.tAnd, tCm, xCmp, xIx, xBin, xBi, xOwn, xACons, xANil, xVar, xC, Rs.bind, Rs.toF, Rs.of, Rf.of, deref, getSl, putI, VE.stI, mayStore, binD, binI, endF, outS, HD, ixD, at40, at41, at42, at43, ix41, ix42, ix43, bi_len, bi_int, cm_eq, cm_lt, cm_gt, lend, lend1, atsOf, giveBack, findArg, comb, whole, hb, hb0, hm, hdiv]
    · have hb0 : big = 0 := by have := h.b; omega
      subst hb0
      have hlt : ¬ pos < cells.length := fun z => hA ⟨rfl, z⟩
      obtain ⟨r, hr, r0⟩ := c_mixed k ((tot + 1) % 2147483563) pos (by omega) (by omega) (by omega) (by omega)
      refine ⟨r % m, pos, 0, (tot + 1) % 2147483563, ?_, Int.emod_nonneg _ (by omega), Int.emod_lt_of_pos _ hm, ⟨h.c, h.l, h.p, h.b, ⟨by omega, by omega⟩⟩⟩
      simp [m__law_take, e__law_take, sCons, sSet, sRet, sNil, sIf, sSub, VE.tAnd, tCm, xCmp, xIx, xBin, xBi, xOwn, xACons, xANil, xVar, xC, Rs.bind, Rs.toF, Rs.of, Rf.of, deref, getSl, putI, VE.stI, mayStore, binD, binI, endF, outS, HD, ixD, at40, at41, at42, at43, ix41, ix42, ix43, bi_len, bi_int, cm_eq, cm_lt, cm_gt, lend, lend1, atsOf, giveBack, findArg, comb, whole, hlt, hr, hm, hdiv]
end LawP
end

section
set_option Elab.async false
set_option linter.all false
set_option maxRecDepth 100000
set_option maxHeartbeats 4000000
namespace LawP
open PySem PySem.Spec L2 VE
/-! ### a loop that keeps an invariant -/
theorem loop_inv {asg : D → Ro → Option Ro} {body : Ro → Rf} (I : Ro → Prop) : ∀ {ds : List D} {ρ : Ro}, I ρ → (∀ d ∈ ds, ∀ ρ, I ρ → ∃ ρ1 ρ2, asg d ρ = some ρ1 ∧ body ρ1 = .next ρ2 ∧ I ρ2) → ∃ ρ2, loopF asg body ds ρ = .next ρ2 ∧ I ρ2
  | [], ρ, h, _ => ⟨ρ, rfl, h⟩
  | d :: ds, ρ, h, hs => by
    obtain ⟨ρ1, ρ2, e1, e2, h2⟩ := hs d List.mem_cons_self ρ h
    obtain ⟨ρ3, e3, h3⟩ := loop_inv I (ds := ds) h2 fun d hd => hs d (List.mem_cons_of_mem _ hd)
    exact ⟨ρ3, by simp only [loopF, e1, e2, e3], h3⟩
/-! ### Euclid -/
def partB : XS := (sCons (sIf (tCm (xCmp .Eq (xVar 1) (xC (.int 0)))) (sCons sBrk sNil) sNil) (sCons (sPar 0 1 (xCons (xVar 1) (xCons (xBin .Mod (xBi "int" (xACons (xVar 0) xANil)) (xVar 1)) xNil))) sNil))
theorem part_loop : ∀ (ds : List D) (n : Nat) (a b : Int) (s : Sl), mayStore (some s) = true → 0 ≤ b → b ≤ a → a * b < 2 ^ n → n < ds.length → ∃ s', loopF (agI 2) partB ds [.fz (.int a), .fz (.int b), s] = .next [.fz (.int (Int.gcd a b)), .fz (.int 0), s'] 
  | [], n, a, b, s, _, _, _, _, h => by cases h
  | d :: ds, n, a, b, s, hs, hb, hba, hp, hn => by
    by_cases h0 : b = 0
    · subst h0
      refine ⟨.fz d, ?_⟩
      have ha : (Int.gcd a 0 : Int) = a := by
        rw [Int.gcd_zero_right]
        omega
      simp [loopF, agI, VE.stI, hs, partB, sCons, sIf, tCm, xCmp, xVar, xC, Rs.bind, Rs.toF, Rs.of, deref, cm_eq, sBrk, ha]
      omega
    · have hb1 : 0 < b := by omega
      have hr0 : 0 ≤ a % b := Int.emod_nonneg _ h0
      have hr1 : a % b < b := Int.emod_lt_of_pos _ hb1
      have h2 : 2 * (a % b) < a + 1 := by
        have e := Int.emod_add_mul_ediv a b
        have q1 : 1 ≤ a / b := Int.le_ediv_of_mul_le hb1 (by omega)
        have q2 : b * 1 ≤ b * (a / b) := Int.mul_le_mul_of_nonneg_left q1 (by omega)
        omega
      have hpos : 0 < a * b := Int.mul_pos (by omega) hb1
      cases n with
      | zero => simp at hp; omega
      | succ n =>
        have hp2 : b * (a % b) < 2 ^ n := by
          have e1 : b * (2 * (a % b)) ≤ b * a := Int.mul_le_mul_of_nonneg_left (by omega) (by omega)
          have e2 : b * (2 * (a % b)) = 2 * (b * (a % b)) := by rw [Int.mul_left_comm]
          have e3 : b * a = a * b := Int.mul_comm _ _
          have e4 : (2 : Int) ^ (n + 1) = 2 * 2 ^ n := by rw [Int.pow_succ, Int.mul_comm]
          rw [e4] at hp
          omega
        obtain ⟨s', e⟩ := part_loop ds n b (a % b) (.fz d) rfl hr0 (by omega) hp2 (by simpa using hn)
        refine ⟨s', ?_⟩
        have eg : Int.gcd b (a % b) = Int.gcd a b := by
          show Nat.gcd b.natAbs (a % b).natAbs = Nat.gcd a.natAbs b.natAbs
          rw [Int.natAbs_emod_of_nonneg (by omega), Nat.gcd_comm, ← Nat.gcd_rec, Nat.gcd_comm]
        rw [eg] at e
        have body : partB [.fz (.int a), .fz (.int b), .fz d] = .next [.fz (.int b), .fz (.int (a % b)), .fz d] := by
          simp [partB, sCons, sNil, sIf, sPar, xCons, xNil, whole, tCm, xCmp, xVar, xC, Rs.bind, Rs.toF, Rs.of, Rf.of, deref, cm_eq, sBrk, h0, xBin, xBi, xACons, xANil, bi_int, binD, binI, hb1, VE.stI, mayStore]
        simp only [loopF, agI, VE.stI]
        have em : mayStore ([Sl.fz (.int a), .fz (.int b), s] : Ro)[2]? = true := hs
        rw [if_pos em]
        show (match partB [.fz (.int a), .fz (.int b), .fz d] with
          | .next ρ2 => loopF (agI 2) partB ds ρ2
          | .cnt ρ2 => loopF (agI 2) partB ds ρ2
          | .brk ρ2 => .next ρ2
          | r => r) = _
        rw [body]
        exact e
theorem iRng {n : Int} (h : small62 n = true) (ρ : Ro) : VE.iRng1 (xC (.int n)) ρ = .ok (rngD 0 n.toNat, []) ρ := by
  simp [VE.iRng1, xC, Rs.bind, deref, h]
theorem part_body {x y : Int} {d : D} (h : 0 < y) : partB [.fz (.int x), .fz (.int y), .fz d] = .next [.fz (.int y), .fz (.int (x % y)), .fz d] := by
  have h0 : ¬ y = 0 := by omega
  simp [partB, sCons, sNil, sIf, sPar, xCons, xNil, whole, tCm, xCmp, xVar, xC, Rs.bind, Rs.toF, Rs.of, Rf.of, deref, cm_eq, sBrk, h0, xBin, xBi, xACons, xANil, bi_int, binD, binI, h, VE.stI, mayStore]
theorem part_any {ds : List D} {a b : Nat} {s : Sl} (hs : mayStore (some s) = true) (ha : a < 2 ^ 1900) (hb : b < 2 ^ 1900) (hl : 3801 < ds.length) : ∃ s', loopF (agI 2) partB ds [.fz (.int a), .fz (.int b), s] = .next [.fz (.int (Int.gcd a b)), .fz (.int 0), s'] := by
  have hp : ((a : Int) * b) < 2 ^ 3800 := by
    have : a * b < 2 ^ 1900 * 2 ^ 1900 := Nat.mul_lt_mul'' ha hb
    rw [← Nat.pow_add] at this
    exact_mod_cast this
  by_cases hle : b ≤ a
  · exact part_loop ds 3800 a b s hs (by omega) (by omega) hp (by omega)
  · cases ds with
    | nil => simp at hl
    | cons d ds =>
      have hb1 : (0 : Int) < b := by omega
      have h0 : ¬ (b : Int) = 0 := by omega
      have er : (a : Int) % b = a := Int.emod_eq_of_lt (by omega) (by omega)
      obtain ⟨s', e⟩ := part_loop ds 3800 b a (.fz d) rfl (by omega) (by omega) (by rw [Int.mul_comm]; exact hp) (by have : (d :: ds).length = ds.length + 1 := rfl; omega)
      refine ⟨s', ?_⟩
      rw [Int.gcd_comm] at e
      have body : partB [.fz (.int a), .fz (.int b), .fz d] = .next [.fz (.int b), .fz (.int a), .fz d] := by rw [part_body hb1, er]
      simp only [loopF, agI, VE.stI]
      have em : mayStore ([Sl.fz (.int a), .fz (.int b), s] : Ro)[2]? = true := hs
      rw [if_pos em]
      show (match partB [.fz (.int a), .fz (.int b), .fz d] with
        | .next ρ2 => loopF (agI 2) partB ds ρ2
        | .cnt ρ2 => loopF (agI 2) partB ds ρ2
        | .brk ρ2 => .next ρ2
        | r => r) = _
      rw [body]
      exact e
theorem bi_abs {x : Int} : biD (Str.ofString "abs") [.int x] = some (.int x.natAbs, false) := by
  have : (if x < 0 then -x else x) = (x.natAbs : Int) := by split <;> omega
  rw [← this]
  rfl
/-- _law_part is the greatest common divisor -/
theorem c_part (k : Nat) (a b : Int) (ha : a.natAbs < 2 ^ 1900) (hb : b.natAbs < 2 ^ 1900) : (Mk (k + 1)).call "_law_part" [.fz (.int a), .fz (.int b)] = .ret (.int (Int.gcd a b)) false [.fz (.int a), .fz (.int b)] := by
  rw [call_eq (e := e__law_part) rfl (mo__law_part k) rfl rfl]
  have hlen : (rngD 0 4000).length = 4000 := by simp [rngD]
  have eg : Int.gcd (a.natAbs : Int) (b.natAbs : Int) = Int.gcd a b := by simp [Int.gcd]
  obtain ⟨s', e⟩ := part_any (ds := rngD 0 4000) (s := .un) rfl ha hb (by rw [hlen]; decide)
  rw [eg] at e
  have em : m__law_part (Mk k).call = sCons (sSet 0 (xBi "abs" (xACons (xVar 0) xANil))) (sCons (sSet 1 (xBi "abs" (xACons (xVar 1) xANil))) (sCons (sFor (VE.iRng1 (xC (.int 4000))) (agI 2) partB) (sCons (sRet (xVar 0)) sNil))) := rfl
  rw [em]
  have e1 : sFor (VE.iRng1 (xC (.int 4000))) (agI 2) partB [.fz (.int a.natAbs), .fz (.int b.natAbs), .un] = .next [.fz (.int (Int.gcd a b)), .fz (.int 0), s'] := by
    unfold sFor
    rw [iRng (by decide)]
    show Rf.map (unlockAll []) (loopF (agI 2) partB (rngD 0 4000) [.fz (.int a.natAbs), .fz (.int b.natAbs), .un]) = _
    rw [e]
    rfl
  simp [sCons, sSet, xBi, xACons, xANil, xVar, Rs.bind, Rs.toF, Rs.of, Rf.of, deref, bi_abs, putI, VE.stI, mayStore, e__law_part, sRet, endF, outS, e1, sNil]
end LawP
end

section
set_option Elab.async false
set_option linter.all false
set_option maxRecDepth 100000
set_option maxHeartbeats 4000000
namespace LawP
open PySem PySem.Spec L2 VE
def handB : XS := (sCons (sSet 1 (xBin .Mod (xBi "int" (xACons (xBin .Add (xBin .Mult (xVar 1) (xC (.int (1033)))) (xBi "int" (xACons (xVar 3) xANil))) xANil)) (xC (.int (2147483563))))) (sCons (sDrop (xApp 2 (xBi "abs" (xACons (xBi "int" (xACons (xVar 3) xANil)) xANil)))) sNil))
theorem hand_body {S : D} {tot c : Int} {cs : List Int} (h0 : 0 ≤ tot) (h1 : tot < 2147483563) (hl : cs.length < 63) :
    handB [.fz S, .fz (.int tot), .ow .own (.lst (cs.map .int)), .fz (.int c)] = .next [.fz S, .fz (.int ((tot * 1033 + c) % 2147483563)), .ow .own (.lst ((cs ++ [(c.natAbs : Int)]).map .int)), .fz (.int c)] := by
  have g : mulOk tot 1033 = true := mulOk_of 40 40 (by omega) (by decide) (by decide) (by decide) (by decide)
  have gs : cs.length < sizeLine := by rw [sizeLine_eq]; omega
  simp [handB, sCons, sSet, sDrop, sNil, xApp, xBin, xBi, xACons, xANil, xVar, xC, Rs.bind, Rs.toF, Rs.of, Rf.of, deref, getSl, putI, VE.stI, mayStore, binD, binI, bi_int, bi_abs, g, whole, gs]
theorem hand_loop {S : D} : ∀ (ns cs : List Int) (tot : Int) (s : Sl), mayStore (some s) = true → 0 ≤ tot → tot < 2147483563 → (∀ c ∈ cs, 0 ≤ c) → cs.length + ns.length ≤ 63 →
    ∃ cs' tot' s', loopF (agI 3) handB (ns.map D.int) [.fz S, .fz (.int tot), .ow .own (.lst (cs.map .int)), s] = .next [.fz S, .fz (.int tot'), .ow .own (.lst (cs'.map .int)), s'] ∧ HOk cs' 0 0 tot'
  | [], cs, tot, s, _, h0, h1, hc, hl => ⟨cs, tot, s, rfl, ⟨hc, by simpa using hl, ⟨by decide, by omega⟩, by decide, ⟨h0, h1⟩⟩⟩
  | n :: ns, cs, tot, s, hs, h0, h1, hc, hl => by
    have hl' : cs.length + (ns.length + 1) ≤ 63 := hl
    obtain ⟨cs', tot', s', e, ok⟩ := hand_loop (S := S) ns (cs ++ [(n.natAbs : Int)]) ((tot * 1033 + n) % 2147483563) (.fz (.int n)) rfl (by omega) (by omega) (fun c hc' => by
      rcases List.mem_append.mp hc' with q | q
      · exact hc c q
      · have : c = n.natAbs := by simpa using q
        omega) (by rw [List.length_append, List.length_singleton]; omega)
    refine ⟨cs', tot', s', ?_, ok⟩
    have em : mayStore ([Sl.fz S, .fz (.int tot), .ow .own (.lst (cs.map .int)), s] : Ro)[3]? = true := hs
    show (match agI 3 (.int n) _ with
      | none => Rf.stuck
      | some ρ1 => (match handB ρ1 with
        | .next ρ2 => loopF (agI 3) handB (ns.map D.int) ρ2
        | .cnt ρ2 => loopF (agI 3) handB (ns.map D.int) ρ2
        | .brk ρ2 => .next ρ2
        | r => r)) = _
    have ea : agI 3 (.int n) [.fz S, .fz (.int tot), .ow .own (.lst (cs.map .int)), s] = some [.fz S, .fz (.int tot), .ow .own (.lst (cs.map .int)), .fz (.int n)] := by
      unfold agI VE.stI
      rw [if_pos em]
      rfl
    rw [ea]
    simp only
    rw [hand_body h0 h1 (by omega)]
    exact e
theorem c_hand (k : Nat) (ns : List Int) (hl : ns.length ≤ 63) : ∃ cs tot as, (Mk (k + 1)).call "_law_hand" [.fz (.scr (ns.map .int))] = .ret (HD cs 0 0 tot) true as ∧ HOk cs 0 0 tot := by
  rw [call_eq (e := e__law_hand) rfl (mo__law_hand k) rfl rfl]
  have bl : biD (Str.ofString "len") [.scr (ns.map D.int)] = some (.int (ns.map D.int).length, false) := rfl
  obtain ⟨cs, tot, s', e, ok⟩ := hand_loop (S := .scr (ns.map .int)) ns [] (ns.length + 71) .un rfl (by omega) (by omega) (fun _ h => by cases h) (by simpa using hl)
  have em : m__law_hand (Mk k).call = sCons (sSet 1 (xBin .Add (xBi "len" (xACons (xVar 0) xANil)) (xC (.int 71)))) (sCons (sSet 2 (xLst xNil)) (sCons (sFor (iGen (xVar 0)) (agI 3) handB) (sCons (sRet (xLst (xCons (xVar 2) (xCons (xC (.int 0)) (xCons (xC (.int 0)) (xCons (xVar 1) xNil)))))) sNil))) := rfl
  rw [em]
  have e1 : sFor (iGen (xVar 0)) (agI 3) handB [.fz (.scr (ns.map .int)), .fz (.int (ns.length + 71)), .ow .own (.lst []), .un] = .next [.fz (.scr (ns.map .int)), .fz (.int tot), .ow .own (.lst (cs.map .int)), s'] := by
    show Rf.map (unlockAll []) (loopF (agI 3) handB (ns.map .int) [.fz (.scr (ns.map .int)), .fz (.int (ns.length + 71)), .ow .own (.lst (([] : List Int).map .int)), .un]) = _
    rw [e]
    rfl
  have sz : szOk 0 = true := by decide
  have sz4 : szOk 4 = true := by decide
  refine ⟨cs, tot, [.fz (.scr (ns.map .int))], ?_, ok⟩
  simp [sCons, sSet, xBin, xBi, xACons, xANil, xLst, xNil, xCons, xVar, xC, Rs.bind, Rs.toF, Rs.of, Rf.of, deref, bl, putI, VE.stI, mayStore, e__law_hand, sRet, endF, outS, e1, sNil, binD, binI, sz, sz4, whole, HD]
end LawP
end

section
set_option Elab.async false
set_option linter.all false
set_option maxRecDepth 100000
set_option maxHeartbeats 4000000
namespace LawP
open PySem PySem.Spec L2 VE
theorem sz3 : szOk 3 = true := by decide
theorem sz2 : szOk 2 = true := by decide
theorem sz4 : szOk 4 = true := by decide
theorem c_big (k : Nat) {cells : List Int} {pos big tot : Int} (h : HOk cells pos big tot) : ∃ (r p b t : Int), (Mk (k + 3)).call "_law_big" [.ow .par (HD cells pos big tot)] = .ret (.int r) false [.ow .par (HD cells p b t)] ∧ 0 ≤ r ∧ r < 10 ^ 18 ∧ HOk cells p b t := by
  rw [call_eq (k := k + 2) (e := e__law_big) rfl (mo__law_big (k + 2)) rfl rfl]
  obtain ⟨i, p, b, t, e1, i0, i1, h1⟩ := c_take k h (m := 4) (by decide) (by decide)
  have hi : i = 0 ∨ i = 1 ∨ i = 2 ∨ i = 3 := by omega
  rcases hi with rfl | rfl | rfl | rfl
  · obtain ⟨r, p2, b2, t2, e2, r0, r1, h2⟩ := c_take k h1 (m := 7) (by decide) (by decide)
    refine ⟨r, p2, b2, t2, ?_, r0, by omega, h2⟩
    simp [m__law_big, e__law_big, sCons, sSet, sRet, sNil, sIf, sSub, VE.tAnd, VE.tOr, VE.tNot, tCm, tE, xCmp, xIx, xBin, xBi, xOwn, xIte, xNeg, xTup, xLst, xCons, xNil, xACons, xANil, xVar, xC, Rs.bind, Rs.toF, Rs.of, Rf.of, deref, getSl, putI, VE.stI, mayStore, binD, binI, endF, outS, ixD, at40, at41, at42, at43, bi_len, bi_int, bi_abs, cm_eq, cm_lt, cm_gt, lend, lend1, atsOf, giveBack, findArg, comb, whole, truD, e1, e2, sz4]
  · obtain ⟨r, p2, b2, t2, e2, r0, r1, h2⟩ := c_take k h1 (m := 1000000) (by decide) (by decide)
    refine ⟨r, p2, b2, t2, ?_, r0, by omega, h2⟩
    simp [m__law_big, e__law_big, sCons, sSet, sRet, sNil, sIf, sSub, VE.tAnd, VE.tOr, VE.tNot, tCm, tE, xCmp, xIx, xBin, xBi, xOwn, xIte, xNeg, xTup, xLst, xCons, xNil, xACons, xANil, xVar, xC, Rs.bind, Rs.toF, Rs.of, Rf.of, deref, getSl, putI, VE.stI, mayStore, binD, binI, endF, outS, ixD, at40, at41, at42, at43, bi_len, bi_int, bi_abs, cm_eq, cm_lt, cm_gt, lend, lend1, atsOf, giveBack, findArg, comb, whole, truD, e1, e2, sz4]
  · obtain ⟨r, p2, b2, t2, e2, r0, r1, h2⟩ := c_take k h1 (m := 1000000000000000000) (by decide) (by decide)
    refine ⟨r, p2, b2, t2, ?_, r0, by omega, h2⟩
    simp [m__law_big, e__law_big, sCons, sSet, sRet, sNil, sIf, sSub, VE.tAnd, VE.tOr, VE.tNot, tCm, tE, xCmp, xIx, xBin, xBi, xOwn, xIte, xNeg, xTup, xLst, xCons, xNil, xACons, xANil, xVar, xC, Rs.bind, Rs.toF, Rs.of, Rf.of, deref, getSl, putI, VE.stI, mayStore, binD, binI, endF, outS, ixD, at40, at41, at42, at43, bi_len, bi_int, bi_abs, cm_eq, cm_lt, cm_gt, lend, lend1, atsOf, giveBack, findArg, comb, whole, truD, e1, e2, sz4]
  · obtain ⟨r, p2, b2, t2, e2, r0, r1, h2⟩ := c_take k h1 (m := 1000000000) (by decide) (by decide)
    refine ⟨r, p2, b2, t2, ?_, r0, by omega, h2⟩
    simp [m__law_big, e__law_big, sCons, sSet, sRet, sNil, sIf, sSub, VE.tAnd, VE.tOr, VE.tNot, tCm, tE, xCmp, xIx, xBin, xBi, xOwn, xIte, xNeg, xTup, xLst, xCons, xNil, xACons, xANil, xVar, xC, Rs.bind, Rs.toF, Rs.of, Rf.of, deref, getSl, putI, VE.stI, mayStore, binD, binI, endF, outS, ixD, at40, at41, at42, at43, bi_len, bi_int, bi_abs, cm_eq, cm_lt, cm_gt, lend, lend1, atsOf, giveBack, findArg, comb, whole, truD, e1, e2, sz4]
theorem c_signed (k : Nat) {cells : List Int} {pos big tot : Int} (h : HOk cells pos big tot) : ∃ (r p b t : Int), (Mk (k + 4)).call "_law_signed" [.ow .par (HD cells pos big tot)] = .ret (.int r) false [.ow .par (HD cells p b t)] ∧ r.natAbs < 10 ^ 18 ∧ HOk cells p b t := by
  rw [call_eq (k := k + 3) (e := e__law_signed) rfl (mo__law_signed (k + 3)) rfl rfl]
  obtain ⟨r, p, b, t, e1, r0, r1, h1⟩ := c_big k h
  obtain ⟨i, p2, b2, t2, e2, i0, i1, h2⟩ := c_take (k + 1) h1 (m := 2) (by decide) (by decide)
  have hi : i = 0 ∨ i = 1 := by omega
  rcases hi with rfl | rfl
  · refine ⟨r, p2, b2, t2, ?_, by omega, h2⟩
    simp [m__law_signed, e__law_signed, sCons, sSet, sRet, sNil, sIf, sSub, VE.tAnd, VE.tOr, VE.tNot, tCm, tE, xCmp, xIx, xBin, xBi, xOwn, xIte, xNeg, xTup, xLst, xCons, xNil, xACons, xANil, xVar, xC, Rs.bind, Rs.toF, Rs.of, Rf.of, deref, getSl, putI, VE.stI, mayStore, binD, binI, endF, outS, ixD, at40, at41, at42, at43, bi_len, bi_int, bi_abs, cm_eq, cm_lt, cm_gt, lend, lend1, atsOf, giveBack, findArg, comb, whole, truD, e1, e2]
  · refine ⟨-r, p2, b2, t2, ?_, by omega, h2⟩
    simp [m__law_signed, e__law_signed, sCons, sSet, sRet, sNil, sIf, sSub, VE.tAnd, VE.tOr, VE.tNot, tCm, tE, xCmp, xIx, xBin, xBi, xOwn, xIte, xNeg, xTup, xLst, xCons, xNil, xACons, xANil, xVar, xC, Rs.bind, Rs.toF, Rs.of, Rf.of, deref, getSl, putI, VE.stI, mayStore, binD, binI, endF, outS, ixD, at40, at41, at42, at43, bi_len, bi_int, bi_abs, cm_eq, cm_lt, cm_gt, lend, lend1, atsOf, giveBack, findArg, comb, whole, truD, e1, e2]
/-- a ratio as the program has it -/
def RD (p : Int × Int) : D := .tup [.int p.1, .int p.2]
/-- top / bottom in lowest terms, the bottom above 0 -/
def rat (a b : Int) : Int × Int := if b < 0 then (-a / Int.gcd a b, -b / Int.gcd a b) else (a / Int.gcd a b, b / Int.gcd a b)
theorem divOk_nat {g : Nat} (h : 0 < g) (h2 : g < 2 ^ 1901) : divOk (g : Int) = true := by
  unfold divOk
  have : ((g : Int).natAbs).log2 < 9000 := Nat.lt_of_lt_of_le (log2_lt (n := 1901) (by simpa using h2) (by decide)) (by decide)
  simp at this
  simp [h, this]
theorem gcd_lt {a b : Int} (hb : b ≠ 0) (h2 : b.natAbs < 2 ^ 1900) : 0 < Int.gcd a b ∧ Int.gcd a b < 2 ^ 1901 := by
  have h0 : 0 < Int.gcd a b := Int.gcd_pos_of_ne_zero_right _ hb
  have h1 : Int.gcd a b ≤ b.natAbs := Nat.le_of_dvd (by omega) (Nat.gcd_dvd_right _ _)
  have h3 : (2 : Nat) ^ 1900 ≤ 2 ^ 1901 := Nat.pow_le_pow_right (by decide) (by decide)
  exact ⟨h0, by omega⟩
theorem c_ratio (k : Nat) (a b : Int) (ha : a.natAbs < 2 ^ 1900) (hb : b.natAbs < 2 ^ 1900) (h0 : b ≠ 0) : (Mk (k + 2)).call "_law_ratio" [.fz (.int a), .fz (.int b)] = .ret (RD (rat a b)) false [.fz (.int a), .fz (.int b)] := by
  rw [call_eq (k := k + 1) (e := e__law_ratio) rfl (mo__law_ratio (k + 1)) rfl rfl]
  obtain ⟨g0, g1⟩ := gcd_lt (a := a) h0 hb
  have hd := divOk_nat g0 g1
  by_cases hn : b < 0
  · have e := c_part k (-a) (-b) (by simpa using ha) (by simpa using hb)
    have eg : Int.gcd (-a) (-b) = Int.gcd a b := by simp
    rw [eg] at e
    simp [m__law_ratio, e__law_ratio, sCons, sSet, sRet, sNil, sIf, sSub, VE.tAnd, VE.tOr, VE.tNot, tCm, tE, xCmp, xIx, xBin, xBi, xOwn, xIte, xNeg, xTup, xLst, xCons, xNil, xACons, xANil, xVar, xC, Rs.bind, Rs.toF, Rs.of, Rf.of, deref, getSl, putI, VE.stI, mayStore, binD, binI, endF, outS, ixD, at40, at41, at42, at43, bi_len, bi_int, bi_abs, cm_eq, cm_lt, cm_gt, lend, lend1, atsOf, giveBack, findArg, comb, whole, truD, hn, e, hd, sz2, RD, rat]
  · have e := c_part k a b ha hb
    simp [m__law_ratio, e__law_ratio, sCons, sSet, sRet, sNil, sIf, sSub, VE.tAnd, VE.tOr, VE.tNot, tCm, tE, xCmp, xIx, xBin, xBi, xOwn, xIte, xNeg, xTup, xLst, xCons, xNil, xACons, xANil, xVar, xC, Rs.bind, Rs.toF, Rs.of, Rf.of, deref, getSl, putI, VE.stI, mayStore, binD, binI, endF, outS, ixD, at40, at41, at42, at43, bi_len, bi_int, bi_abs, cm_eq, cm_lt, cm_gt, lend, lend1, atsOf, giveBack, findArg, comb, whole, truD, hn, e, hd, sz2, RD, rat]
end LawP
end

section
set_option Elab.async false
set_option linter.all false
set_option maxRecDepth 100000
set_option maxHeartbeats 4000000
namespace LawP
open PySem PySem.Spec L2 VE
theorem isi_NoneType_int : isiD "NoneType" ["int"] = some false := by decide +kernel
theorem isi_NoneType_bool : isiD "NoneType" ["bool"] = some false := by decide +kernel
theorem isi_NoneType_tuple : isiD "NoneType" ["tuple"] = some false := by decide +kernel
theorem isi_bool_int : isiD "bool" ["int"] = some true := by decide +kernel
theorem isi_bool_bool : isiD "bool" ["bool"] = some true := by decide +kernel
theorem isi_bool_tuple : isiD "bool" ["tuple"] = some false := by decide +kernel
theorem isi_int_int : isiD "int" ["int"] = some true := by decide +kernel
theorem isi_int_bool : isiD "int" ["bool"] = some false := by decide +kernel
theorem isi_int_tuple : isiD "int" ["tuple"] = some false := by decide +kernel
theorem isi_str_int : isiD "str" ["int"] = some false := by decide +kernel
theorem isi_str_bool : isiD "str" ["bool"] = some false := by decide +kernel
theorem isi_str_tuple : isiD "str" ["tuple"] = some false := by decide +kernel
theorem isi_tuple_int : isiD "tuple" ["int"] = some false := by decide +kernel
theorem isi_tuple_bool : isiD "tuple" ["bool"] = some false := by decide +kernel
theorem isi_tuple_tuple : isiD "tuple" ["tuple"] = some true := by decide +kernel
theorem isi_list_int : isiD "list" ["int"] = some false := by decide +kernel
theorem isi_list_bool : isiD "list" ["bool"] = some false := by decide +kernel
theorem isi_list_tuple : isiD "list" ["tuple"] = some false := by decide +kernel
theorem cm_le {a b : Int} : cmpD .LtE (.int a) (.int b) = some (decide (a ≤ b)) := rfl
theorem cm_ge {a b : Int} : cmpD .GtE (.int a) (.int b) = some (decide (b ≤ a)) := rfl
/-- of a kind that isinstance tells -/
def kd : D → Bool
  | .scr _ => false
  | .obj _ _ => false
  | _ => true
def isI : D → Bool
  | .int _ => true
  | _ => false
def wh (d l h : D) : Bool := match d with
  | .int x => (match l with | .int l => decide (l ≤ x) | _ => true) && (match h with | .int h => decide (x ≤ h) | _ => true)
  | _ => false
def bnd : D → Bool
  | .int _ => true
  | .non => true
  | _ => false
theorem c_int (k : Nat) {d : D} (hk : kd d = true) : (Mk (k + 1)).call "_law_int" [.fz d] = .ret (.bl (isI d)) false [.fz d] := by
  rw [call_eq (e := e__law_int) rfl (mo__law_int k) rfl rfl]
  cases d <;> first | cases hk; done | simp [m__law_int, e__law_int, sCons, sSet, sRet, sNil, sIf, sSub, VE.tAnd, VE.tOr, VE.tNot, tCm, tE, xCmp, xIx, xBin, xBi, xOwn, xIte, xNeg, xTup, xLst, xCons, xNil, xACons, xANil, xVar, xC, Rs.bind, Rs.toF, Rs.of, Rf.of, deref, getSl, putI, VE.stI, mayStore, binD, binI, endF, outS, ixD, at40, at41, at42, at43, bi_len, bi_int, bi_abs, cm_eq, cm_lt, cm_gt, lend, lend1, atsOf, giveBack, findArg, comb, whole, truD, xAnd, xOr, xNot, xCmp2, xIsi, tyD, isi_NoneType_int, isi_NoneType_bool, isi_NoneType_tuple, isi_bool_int, isi_bool_bool, isi_bool_tuple, isi_int_int, isi_int_bool, isi_int_tuple, isi_str_int, isi_str_bool, isi_str_tuple, isi_tuple_int, isi_tuple_bool, isi_tuple_tuple, isi_list_int, isi_list_bool, isi_list_tuple, cm_le, cm_ge, isI]
theorem cn1 {a : Int} : cmpD .IsNot (.int a) .non = some true := rfl
theorem cn2 : cmpD .IsNot .non .non = some false := rfl
theorem cn3 {a : Int} : cmpD .Is (.int a) .non = some false := rfl
theorem cn4 : cmpD .Is .non .non = some true := rfl
theorem c_is_whole (k : Nat) {d l h : D} (hk : kd d = true) (hl : bnd l = true) (hh : bnd h = true) : (Mk (k + 1)).call "is_whole" [.fz d, .fz l, .fz h] = .ret (.bl (wh d l h)) false [.fz d, .fz l, .fz h] := by
  rw [call_eq (e := e_is_whole) rfl (mo_is_whole k) rfl rfl]
  have pl : parOk (.fz l) = true := rfl
  cases d with
  | int x =>
    cases l with
    | int l =>
      by_cases h1 : x < l
      · have h2 : ¬ l ≤ x := by omega
        cases h with
        | int h => simp [m_is_whole, e_is_whole, sCons, sSet, sRet, sNil, sIf, sSub, VE.tAnd, VE.tOr, VE.tNot, tCm, tE, xCmp, xIx, xBin, xBi, xOwn, xIte, xNeg, xTup, xLst, xCons, xNil, xACons, xANil, xVar, xC, Rs.bind, Rs.toF, Rs.of, Rf.of, deref, getSl, putI, VE.stI, mayStore, binD, binI, endF, outS, ixD, at40, at41, at42, at43, bi_len, bi_int, bi_abs, cm_eq, cm_lt, cm_gt, lend, lend1, atsOf, giveBack, findArg, comb, whole, truD, xAnd, xOr, xNot, xCmp2, xIsi, tyD, isi_NoneType_int, isi_NoneType_bool, isi_NoneType_tuple, isi_bool_int, isi_bool_bool, isi_bool_tuple, isi_int_int, isi_int_bool, isi_int_tuple, isi_str_int, isi_str_bool, isi_str_tuple, isi_tuple_int, isi_tuple_bool, isi_tuple_tuple, isi_list_int, isi_list_bool, isi_list_tuple, cm_le, cm_ge, cn1, cn2, cn3, cn4, wh, h1, h2]
        | non => simp [m_is_whole, e_is_whole, sCons, sSet, sRet, sNil, sIf, sSub, VE.tAnd, VE.tOr, VE.tNot, tCm, tE, xCmp, xIx, xBin, xBi, xOwn, xIte, xNeg, xTup, xLst, xCons, xNil, xACons, xANil, xVar, xC, Rs.bind, Rs.toF, Rs.of, Rf.of, deref, getSl, putI, VE.stI, mayStore, binD, binI, endF, outS, ixD, at40, at41, at42, at43, bi_len, bi_int, bi_abs, cm_eq, cm_lt, cm_gt, lend, lend1, atsOf, giveBack, findArg, comb, whole, truD, xAnd, xOr, xNot, xCmp2, xIsi, tyD, isi_NoneType_int, isi_NoneType_bool, isi_NoneType_tuple, isi_bool_int, isi_bool_bool, isi_bool_tuple, isi_int_int, isi_int_bool, isi_int_tuple, isi_str_int, isi_str_bool, isi_str_tuple, isi_tuple_int, isi_tuple_bool, isi_tuple_tuple, isi_list_int, isi_list_bool, isi_list_tuple, cm_le, cm_ge, cn1, cn2, cn3, cn4, wh, h1, h2]
        | _ => cases hh
      · have h2 : l ≤ x := by omega
        cases h with
        | int h => simp [m_is_whole, e_is_whole, sCons, sSet, sRet, sNil, sIf, sSub, VE.tAnd, VE.tOr, VE.tNot, tCm, tE, xCmp, xIx, xBin, xBi, xOwn, xIte, xNeg, xTup, xLst, xCons, xNil, xACons, xANil, xVar, xC, Rs.bind, Rs.toF, Rs.of, Rf.of, deref, getSl, putI, VE.stI, mayStore, binD, binI, endF, outS, ixD, at40, at41, at42, at43, bi_len, bi_int, bi_abs, cm_eq, cm_lt, cm_gt, lend, lend1, atsOf, giveBack, findArg, comb, whole, truD, xAnd, xOr, xNot, xCmp2, xIsi, tyD, isi_NoneType_int, isi_NoneType_bool, isi_NoneType_tuple, isi_bool_int, isi_bool_bool, isi_bool_tuple, isi_int_int, isi_int_bool, isi_int_tuple, isi_str_int, isi_str_bool, isi_str_tuple, isi_tuple_int, isi_tuple_bool, isi_tuple_tuple, isi_list_int, isi_list_bool, isi_list_tuple, cm_le, cm_ge, cn1, cn2, cn3, cn4, wh, h1, h2]
        | non => simp [m_is_whole, e_is_whole, sCons, sSet, sRet, sNil, sIf, sSub, VE.tAnd, VE.tOr, VE.tNot, tCm, tE, xCmp, xIx, xBin, xBi, xOwn, xIte, xNeg, xTup, xLst, xCons, xNil, xACons, xANil, xVar, xC, Rs.bind, Rs.toF, Rs.of, Rf.of, deref, getSl, putI, VE.stI, mayStore, binD, binI, endF, outS, ixD, at40, at41, at42, at43, bi_len, bi_int, bi_abs, cm_eq, cm_lt, cm_gt, lend, lend1, atsOf, giveBack, findArg, comb, whole, truD, xAnd, xOr, xNot, xCmp2, xIsi, tyD, isi_NoneType_int, isi_NoneType_bool, isi_NoneType_tuple, isi_bool_int, isi_bool_bool, isi_bool_tuple, isi_int_int, isi_int_bool, isi_int_tuple, isi_str_int, isi_str_bool, isi_str_tuple, isi_tuple_int, isi_tuple_bool, isi_tuple_tuple, isi_list_int, isi_list_bool, isi_list_tuple, cm_le, cm_ge, cn1, cn2, cn3, cn4, wh, h1, h2]
        | _ => cases hh
    | non =>
      cases h with
      | int h => simp [m_is_whole, e_is_whole, sCons, sSet, sRet, sNil, sIf, sSub, VE.tAnd, VE.tOr, VE.tNot, tCm, tE, xCmp, xIx, xBin, xBi, xOwn, xIte, xNeg, xTup, xLst, xCons, xNil, xACons, xANil, xVar, xC, Rs.bind, Rs.toF, Rs.of, Rf.of, deref, getSl, putI, VE.stI, mayStore, binD, binI, endF, outS, ixD, at40, at41, at42, at43, bi_len, bi_int, bi_abs, cm_eq, cm_lt, cm_gt, lend, lend1, atsOf, giveBack, findArg, comb, whole, truD, xAnd, xOr, xNot, xCmp2, xIsi, tyD, isi_NoneType_int, isi_NoneType_bool, isi_NoneType_tuple, isi_bool_int, isi_bool_bool, isi_bool_tuple, isi_int_int, isi_int_bool, isi_int_tuple, isi_str_int, isi_str_bool, isi_str_tuple, isi_tuple_int, isi_tuple_bool, isi_tuple_tuple, isi_list_int, isi_list_bool, isi_list_tuple, cm_le, cm_ge, cn1, cn2, cn3, cn4, wh]
      | non => simp [m_is_whole, e_is_whole, sCons, sSet, sRet, sNil, sIf, sSub, VE.tAnd, VE.tOr, VE.tNot, tCm, tE, xCmp, xIx, xBin, xBi, xOwn, xIte, xNeg, xTup, xLst, xCons, xNil, xACons, xANil, xVar, xC, Rs.bind, Rs.toF, Rs.of, Rf.of, deref, getSl, putI, VE.stI, mayStore, binD, binI, endF, outS, ixD, at40, at41, at42, at43, bi_len, bi_int, bi_abs, cm_eq, cm_lt, cm_gt, lend, lend1, atsOf, giveBack, findArg, comb, whole, truD, xAnd, xOr, xNot, xCmp2, xIsi, tyD, isi_NoneType_int, isi_NoneType_bool, isi_NoneType_tuple, isi_bool_int, isi_bool_bool, isi_bool_tuple, isi_int_int, isi_int_bool, isi_int_tuple, isi_str_int, isi_str_bool, isi_str_tuple, isi_tuple_int, isi_tuple_bool, isi_tuple_tuple, isi_list_int, isi_list_bool, isi_list_tuple, cm_le, cm_ge, cn1, cn2, cn3, cn4, wh]
      | _ => cases hh
    | _ => cases hl
  | scr _ => cases hk
  | obj _ _ => cases hk
  | _ => simp [m_is_whole, e_is_whole, sCons, sSet, sRet, sNil, sIf, sSub, VE.tAnd, VE.tOr, VE.tNot, tCm, tE, xCmp, xIx, xBin, xBi, xOwn, xIte, xNeg, xTup, xLst, xCons, xNil, xACons, xANil, xVar, xC, Rs.bind, Rs.toF, Rs.of, Rf.of, deref, getSl, putI, VE.stI, mayStore, binD, binI, endF, outS, ixD, at40, at41, at42, at43, bi_len, bi_int, bi_abs, cm_eq, cm_lt, cm_gt, lend, lend1, atsOf, giveBack, findArg, comb, whole, truD, xAnd, xOr, xNot, xCmp2, xIsi, tyD, isi_NoneType_int, isi_NoneType_bool, isi_NoneType_tuple, isi_bool_int, isi_bool_bool, isi_bool_tuple, isi_int_int, isi_int_bool, isi_int_tuple, isi_str_int, isi_str_bool, isi_str_tuple, isi_tuple_int, isi_tuple_bool, isi_tuple_tuple, isi_list_int, isi_list_bool, isi_list_tuple, cm_le, cm_ge, wh]
theorem c_lowest (k : Nat) (a b : Int) (ha : a.natAbs < 2 ^ 1900) (hb : b.natAbs < 2 ^ 1900) (h0 : 0 < b) : (Mk (k + 1)).call "in_lowest_terms" [.fz (.int a), .fz (.int b)] = .ret (RD (rat a b)) false [.fz (.int a), .fz (.int b)] := by
  rw [call_eq (e := e_in_lowest_terms) rfl (mo_in_lowest_terms k) rfl rfl]
  obtain ⟨g0, g1⟩ := gcd_lt (a := a) (b := b) (by omega) hb
  have hd := divOk_nat g0 g1
  have hn : ¬ b < 0 := by omega
  have eg : Nat.gcd a.natAbs b.natAbs = Int.gcd a b := rfl
  simp [m_in_lowest_terms, e_in_lowest_terms, sCons, sSet, sRet, sNil, sIf, sSub, VE.tAnd, VE.tOr, VE.tNot, tCm, tE, xCmp, xIx, xBin, xBi, xOwn, xIte, xNeg, xTup, xLst, xCons, xNil, xACons, xANil, xVar, xC, Rs.bind, Rs.toF, Rs.of, Rf.of, deref, getSl, putI, VE.stI, mayStore, binD, binI, endF, outS, ixD, at40, at41, at42, at43, bi_len, bi_int, bi_abs, cm_eq, cm_lt, cm_gt, lend, lend1, atsOf, giveBack, findArg, comb, whole, truD, xAnd, xOr, xNot, xCmp2, xIsi, tyD, isi_NoneType_int, isi_NoneType_bool, isi_NoneType_tuple, isi_bool_int, isi_bool_bool, isi_bool_tuple, isi_int_int, isi_int_bool, isi_int_tuple, isi_str_int, isi_str_bool, isi_str_tuple, isi_tuple_int, isi_tuple_bool, isi_tuple_tuple, isi_list_int, isi_list_bool, isi_list_tuple, cm_le, cm_ge, xGcd, hn, hd, eg, sz2, RD, rat]
end LawP
end

section
set_option Elab.async false
set_option linter.all false
set_option maxRecDepth 100000
set_option maxHeartbeats 4000000
namespace LawP
open PySem PySem.Spec L2 VE
theorem bi_lenT {xs : List D} : biD (Str.ofString "len") [.tup xs] = some (.int xs.length, false) := rfl
theorem cm_ne {a b : Int} : cmpD .NotEq (.int a) (.int b) = some (!decide (a = b)) := rfl
theorem at20 {a b : D} : L2.atI [a, b] 0 = some a := rfl
theorem at21 {a b : D} : L2.atI [a, b] 1 = some b := rfl
theorem at10 {a : D} : L2.atI [a] 0 = some a := rfl
theorem c2n {n : Nat} : ¬ ((n : Int) + 1 + 1 + 1 = 2) := by omega
/-- is it a ratio -/
def isR : D → Bool
  | .tup [.int a, .int b] => decide (0 < b) && decide (Int.gcd a b = 1)
  | _ => false
/-- of a kind that isinstance tells, its parts too, no big numbers -/
def okD : D → Prop
  | .tup ds => ∀ x ∈ ds, kd x = true ∧ ∀ a, x = .int a → a.natAbs < 2 ^ 1900
  | .scr _ => False
  | .obj _ _ => False
  | _ => True
theorem okD.kd {d : D} (h : okD d) : kd d = true := by
  cases d <;> first | rfl | exact h.elim
theorem gcd1 {a b : Int} : ((Nat.gcd a.natAbs b.natAbs : Nat) : Int) = 1 ↔ Int.gcd a b = 1 := by
  show ((Int.gcd a b : Nat) : Int) = 1 ↔ _
  omega
theorem c_is_ratio (k : Nat) {d : D} (h : okD d) : (Mk (k + 2)).call "is_ratio" [.fz d] = .ret (.bl (isR d)) false [.fz d] := by
  rw [call_eq (k := k + 1) (e := e_is_ratio) rfl (mo_is_ratio (k + 1)) rfl rfl]
  cases d with
  | scr _ => exact h.elim
  | obj _ _ => exact h.elim
  | tup ds =>
    match ds, h with
    | [], _ => simp [m_is_ratio, e_is_ratio, sCons, sSet, sRet, sNil, sIf, sSub, VE.tAnd, VE.tOr, VE.tNot, tCm, tE, xCmp, xIx, xBin, xBi, xOwn, xIte, xNeg, xTup, xLst, xCons, xNil, xACons, xANil, xVar, xC, Rs.bind, Rs.toF, Rs.of, Rf.of, deref, getSl, putI, VE.stI, mayStore, binD, binI, endF, outS, ixD, at40, at41, at42, at43, bi_len, bi_int, bi_abs, cm_eq, cm_lt, cm_gt, lend, lend1, atsOf, giveBack, findArg, comb, whole, truD, xAnd, xOr, xNot, xCmp2, xIsi, tyD, isi_NoneType_int, isi_NoneType_bool, isi_NoneType_tuple, isi_bool_int, isi_bool_bool, isi_bool_tuple, isi_int_int, isi_int_bool, isi_int_tuple, isi_str_int, isi_str_bool, isi_str_tuple, isi_tuple_int, isi_tuple_bool, isi_tuple_tuple, isi_list_int, isi_list_bool, isi_list_tuple, cm_le, cm_ge, cn1, cn2, cn3, cn4, bi_len, bi_lenT, cm_ne, at20, at21, at10, c2n, isR]
    | [x], _ => simp [m_is_ratio, e_is_ratio, sCons, sSet, sRet, sNil, sIf, sSub, VE.tAnd, VE.tOr, VE.tNot, tCm, tE, xCmp, xIx, xBin, xBi, xOwn, xIte, xNeg, xTup, xLst, xCons, xNil, xACons, xANil, xVar, xC, Rs.bind, Rs.toF, Rs.of, Rf.of, deref, getSl, putI, VE.stI, mayStore, binD, binI, endF, outS, ixD, at40, at41, at42, at43, bi_len, bi_int, bi_abs, cm_eq, cm_lt, cm_gt, lend, lend1, atsOf, giveBack, findArg, comb, whole, truD, xAnd, xOr, xNot, xCmp2, xIsi, tyD, isi_NoneType_int, isi_NoneType_bool, isi_NoneType_tuple, isi_bool_int, isi_bool_bool, isi_bool_tuple, isi_int_int, isi_int_bool, isi_int_tuple, isi_str_int, isi_str_bool, isi_str_tuple, isi_tuple_int, isi_tuple_bool, isi_tuple_tuple, isi_list_int, isi_list_bool, isi_list_tuple, cm_le, cm_ge, cn1, cn2, cn3, cn4, bi_len, bi_lenT, cm_ne, at20, at21, at10, c2n, isR]
    | x :: y :: z :: r, _ => simp [m_is_ratio, e_is_ratio, sCons, sSet, sRet, sNil, sIf, sSub, VE.tAnd, VE.tOr, VE.tNot, tCm, tE, xCmp, xIx, xBin, xBi, xOwn, xIte, xNeg, xTup, xLst, xCons, xNil, xACons, xANil, xVar, xC, Rs.bind, Rs.toF, Rs.of, Rf.of, deref, getSl, putI, VE.stI, mayStore, binD, binI, endF, outS, ixD, at40, at41, at42, at43, bi_len, bi_int, bi_abs, cm_eq, cm_lt, cm_gt, lend, lend1, atsOf, giveBack, findArg, comb, whole, truD, xAnd, xOr, xNot, xCmp2, xIsi, tyD, isi_NoneType_int, isi_NoneType_bool, isi_NoneType_tuple, isi_bool_int, isi_bool_bool, isi_bool_tuple, isi_int_int, isi_int_bool, isi_int_tuple, isi_str_int, isi_str_bool, isi_str_tuple, isi_tuple_int, isi_tuple_bool, isi_tuple_tuple, isi_list_int, isi_list_bool, isi_list_tuple, cm_le, cm_ge, cn1, cn2, cn3, cn4, bi_len, bi_lenT, cm_ne, at20, at21, at10, c2n, isR]
    | [x, y], h =>
      have e1 := c_is_whole k (h x (by simp)).1 (l := .non) (h := .non) rfl rfl
      have e2 := c_is_whole k (h y (by simp)).1 (l := .int 1) (h := .non) rfl rfl
      cases x with
      | int a =>
        cases y with
        | int b =>
          by_cases h1 : 1 ≤ b
          · have h2 : 0 < b := by omega
            by_cases h3 : Int.gcd a b = 1
            · simp [m_is_ratio, e_is_ratio, sCons, sSet, sRet, sNil, sIf, sSub, VE.tAnd, VE.tOr, VE.tNot, tCm, tE, xCmp, xIx, xBin, xBi, xOwn, xIte, xNeg, xTup, xLst, xCons, xNil, xACons, xANil, xVar, xC, Rs.bind, Rs.toF, Rs.of, Rf.of, deref, getSl, putI, VE.stI, mayStore, binD, binI, endF, outS, ixD, at40, at41, at42, at43, bi_len, bi_int, bi_abs, cm_eq, cm_lt, cm_gt, lend, lend1, atsOf, giveBack, findArg, comb, whole, truD, xAnd, xOr, xNot, xCmp2, xIsi, tyD, isi_NoneType_int, isi_NoneType_bool, isi_NoneType_tuple, isi_bool_int, isi_bool_bool, isi_bool_tuple, isi_int_int, isi_int_bool, isi_int_tuple, isi_str_int, isi_str_bool, isi_str_tuple, isi_tuple_int, isi_tuple_bool, isi_tuple_tuple, isi_list_int, isi_list_bool, isi_list_tuple, cm_le, cm_ge, cn1, cn2, cn3, cn4, bi_len, bi_lenT, cm_ne, at20, at21, at10, c2n, isR, e1, e2, wh, h1, h2, xGcd, gcd1, h3]
            · simp [m_is_ratio, e_is_ratio, sCons, sSet, sRet, sNil, sIf, sSub, VE.tAnd, VE.tOr, VE.tNot, tCm, tE, xCmp, xIx, xBin, xBi, xOwn, xIte, xNeg, xTup, xLst, xCons, xNil, xACons, xANil, xVar, xC, Rs.bind, Rs.toF, Rs.of, Rf.of, deref, getSl, putI, VE.stI, mayStore, binD, binI, endF, outS, ixD, at40, at41, at42, at43, bi_len, bi_int, bi_abs, cm_eq, cm_lt, cm_gt, lend, lend1, atsOf, giveBack, findArg, comb, whole, truD, xAnd, xOr, xNot, xCmp2, xIsi, tyD, isi_NoneType_int, isi_NoneType_bool, isi_NoneType_tuple, isi_bool_int, isi_bool_bool, isi_bool_tuple, isi_int_int, isi_int_bool, isi_int_tuple, isi_str_int, isi_str_bool, isi_str_tuple, isi_tuple_int, isi_tuple_bool, isi_tuple_tuple, isi_list_int, isi_list_bool, isi_list_tuple, cm_le, cm_ge, cn1, cn2, cn3, cn4, bi_len, bi_lenT, cm_ne, at20, at21, at10, c2n, isR, e1, e2, wh, h1, h2, xGcd, gcd1, h3]
          · have h2 : ¬ 0 < b := by omega
            simp [m_is_ratio, e_is_ratio, sCons, sSet, sRet, sNil, sIf, sSub, VE.tAnd, VE.tOr, VE.tNot, tCm, tE, xCmp, xIx, xBin, xBi, xOwn, xIte, xNeg, xTup, xLst, xCons, xNil, xACons, xANil, xVar, xC, Rs.bind, Rs.toF, Rs.of, Rf.of, deref, getSl, putI, VE.stI, mayStore, binD, binI, endF, outS, ixD, at40, at41, at42, at43, bi_len, bi_int, bi_abs, cm_eq, cm_lt, cm_gt, lend, lend1, atsOf, giveBack, findArg, comb, whole, truD, xAnd, xOr, xNot, xCmp2, xIsi, tyD, isi_NoneType_int, isi_NoneType_bool, isi_NoneType_tuple, isi_bool_int, isi_bool_bool, isi_bool_tuple, isi_int_int, isi_int_bool, isi_int_tuple, isi_str_int, isi_str_bool, isi_str_tuple, isi_tuple_int, isi_tuple_bool, isi_tuple_tuple, isi_list_int, isi_list_bool, isi_list_tuple, cm_le, cm_ge, cn1, cn2, cn3, cn4, bi_len, bi_lenT, cm_ne, at20, at21, at10, c2n, isR, e1, e2, wh, h1, h2]
        | _ => simp [m_is_ratio, e_is_ratio, sCons, sSet, sRet, sNil, sIf, sSub, VE.tAnd, VE.tOr, VE.tNot, tCm, tE, xCmp, xIx, xBin, xBi, xOwn, xIte, xNeg, xTup, xLst, xCons, xNil, xACons, xANil, xVar, xC, Rs.bind, Rs.toF, Rs.of, Rf.of, deref, getSl, putI, VE.stI, mayStore, binD, binI, endF, outS, ixD, at40, at41, at42, at43, bi_len, bi_int, bi_abs, cm_eq, cm_lt, cm_gt, lend, lend1, atsOf, giveBack, findArg, comb, whole, truD, xAnd, xOr, xNot, xCmp2, xIsi, tyD, isi_NoneType_int, isi_NoneType_bool, isi_NoneType_tuple, isi_bool_int, isi_bool_bool, isi_bool_tuple, isi_int_int, isi_int_bool, isi_int_tuple, isi_str_int, isi_str_bool, isi_str_tuple, isi_tuple_int, isi_tuple_bool, isi_tuple_tuple, isi_list_int, isi_list_bool, isi_list_tuple, cm_le, cm_ge, cn1, cn2, cn3, cn4, bi_len, bi_lenT, cm_ne, at20, at21, at10, c2n, isR, e1, e2, wh]
      | _ => simp [m_is_ratio, e_is_ratio, sCons, sSet, sRet, sNil, sIf, sSub, VE.tAnd, VE.tOr, VE.tNot, tCm, tE, xCmp, xIx, xBin, xBi, xOwn, xIte, xNeg, xTup, xLst, xCons, xNil, xACons, xANil, xVar, xC, Rs.bind, Rs.toF, Rs.of, Rf.of, deref, getSl, putI, VE.stI, mayStore, binD, binI, endF, outS, ixD, at40, at41, at42, at43, bi_len, bi_int, bi_abs, cm_eq, cm_lt, cm_gt, lend, lend1, atsOf, giveBack, findArg, comb, whole, truD, xAnd, xOr, xNot, xCmp2, xIsi, tyD, isi_NoneType_int, isi_NoneType_bool, isi_NoneType_tuple, isi_bool_int, isi_bool_bool, isi_bool_tuple, isi_int_int, isi_int_bool, isi_int_tuple, isi_str_int, isi_str_bool, isi_str_tuple, isi_tuple_int, isi_tuple_bool, isi_tuple_tuple, isi_list_int, isi_list_bool, isi_list_tuple, cm_le, cm_ge, cn1, cn2, cn3, cn4, bi_len, bi_lenT, cm_ne, at20, at21, at10, c2n, isR, e1, e2, wh]
  | _ => simp [m_is_ratio, e_is_ratio, sCons, sSet, sRet, sNil, sIf, sSub, VE.tAnd, VE.tOr, VE.tNot, tCm, tE, xCmp, xIx, xBin, xBi, xOwn, xIte, xNeg, xTup, xLst, xCons, xNil, xACons, xANil, xVar, xC, Rs.bind, Rs.toF, Rs.of, Rf.of, deref, getSl, putI, VE.stI, mayStore, binD, binI, endF, outS, ixD, at40, at41, at42, at43, bi_len, bi_int, bi_abs, cm_eq, cm_lt, cm_gt, lend, lend1, atsOf, giveBack, findArg, comb, whole, truD, xAnd, xOr, xNot, xCmp2, xIsi, tyD, isi_NoneType_int, isi_NoneType_bool, isi_NoneType_tuple, isi_bool_int, isi_bool_bool, isi_bool_tuple, isi_int_int, isi_int_bool, isi_int_tuple, isi_str_int, isi_str_bool, isi_str_tuple, isi_tuple_int, isi_tuple_bool, isi_tuple_tuple, isi_list_int, isi_list_bool, isi_list_tuple, cm_le, cm_ge, cn1, cn2, cn3, cn4, bi_len, bi_lenT, cm_ne, at20, at21, at10, c2n, isR]
theorem c_lis_ratio (k : Nat) {d : D} (h : okD d) : (Mk (k + 2)).call "_law_is_ratio" [.fz d] = .ret (.bl (isR d)) false [.fz d] := by
  rw [call_eq (k := k + 1) (e := e__law_is_ratio) rfl (mo__law_is_ratio (k + 1)) rfl rfl]
  cases d with
  | scr _ => exact h.elim
  | obj _ _ => exact h.elim
  | tup ds =>
    match ds, h with
    | [], _ => simp [m__law_is_ratio, e__law_is_ratio, sCons, sSet, sRet, sNil, sIf, sSub, VE.tAnd, VE.tOr, VE.tNot, tCm, tE, xCmp, xIx, xBin, xBi, xOwn, xIte, xNeg, xTup, xLst, xCons, xNil, xACons, xANil, xVar, xC, Rs.bind, Rs.toF, Rs.of, Rf.of, deref, getSl, putI, VE.stI, mayStore, binD, binI, endF, outS, ixD, at40, at41, at42, at43, bi_len, bi_int, bi_abs, cm_eq, cm_lt, cm_gt, lend, lend1, atsOf, giveBack, findArg, comb, whole, truD, xAnd, xOr, xNot, xCmp2, xIsi, tyD, isi_NoneType_int, isi_NoneType_bool, isi_NoneType_tuple, isi_bool_int, isi_bool_bool, isi_bool_tuple, isi_int_int, isi_int_bool, isi_int_tuple, isi_str_int, isi_str_bool, isi_str_tuple, isi_tuple_int, isi_tuple_bool, isi_tuple_tuple, isi_list_int, isi_list_bool, isi_list_tuple, cm_le, cm_ge, cn1, cn2, cn3, cn4, bi_len, bi_lenT, cm_ne, at20, at21, at10, c2n, isR]
    | [x], _ => simp [m__law_is_ratio, e__law_is_ratio, sCons, sSet, sRet, sNil, sIf, sSub, VE.tAnd, VE.tOr, VE.tNot, tCm, tE, xCmp, xIx, xBin, xBi, xOwn, xIte, xNeg, xTup, xLst, xCons, xNil, xACons, xANil, xVar, xC, Rs.bind, Rs.toF, Rs.of, Rf.of, deref, getSl, putI, VE.stI, mayStore, binD, binI, endF, outS, ixD, at40, at41, at42, at43, bi_len, bi_int, bi_abs, cm_eq, cm_lt, cm_gt, lend, lend1, atsOf, giveBack, findArg, comb, whole, truD, xAnd, xOr, xNot, xCmp2, xIsi, tyD, isi_NoneType_int, isi_NoneType_bool, isi_NoneType_tuple, isi_bool_int, isi_bool_bool, isi_bool_tuple, isi_int_int, isi_int_bool, isi_int_tuple, isi_str_int, isi_str_bool, isi_str_tuple, isi_tuple_int, isi_tuple_bool, isi_tuple_tuple, isi_list_int, isi_list_bool, isi_list_tuple, cm_le, cm_ge, cn1, cn2, cn3, cn4, bi_len, bi_lenT, cm_ne, at20, at21, at10, c2n, isR]
    | x :: y :: z :: r, _ => simp [m__law_is_ratio, e__law_is_ratio, sCons, sSet, sRet, sNil, sIf, sSub, VE.tAnd, VE.tOr, VE.tNot, tCm, tE, xCmp, xIx, xBin, xBi, xOwn, xIte, xNeg, xTup, xLst, xCons, xNil, xACons, xANil, xVar, xC, Rs.bind, Rs.toF, Rs.of, Rf.of, deref, getSl, putI, VE.stI, mayStore, binD, binI, endF, outS, ixD, at40, at41, at42, at43, bi_len, bi_int, bi_abs, cm_eq, cm_lt, cm_gt, lend, lend1, atsOf, giveBack, findArg, comb, whole, truD, xAnd, xOr, xNot, xCmp2, xIsi, tyD, isi_NoneType_int, isi_NoneType_bool, isi_NoneType_tuple, isi_bool_int, isi_bool_bool, isi_bool_tuple, isi_int_int, isi_int_bool, isi_int_tuple, isi_str_int, isi_str_bool, isi_str_tuple, isi_tuple_int, isi_tuple_bool, isi_tuple_tuple, isi_list_int, isi_list_bool, isi_list_tuple, cm_le, cm_ge, cn1, cn2, cn3, cn4, bi_len, bi_lenT, cm_ne, at20, at21, at10, c2n, isR]
    | [x, y], h =>
      have e1 := c_int k (h x (by simp)).1
      have e2 := c_int k (h y (by simp)).1
      cases x with
      | int a =>
        cases y with
        | int b =>
          have e3 := c_part k a b ((h (.int a) (by simp)).2 a rfl) ((h (.int b) (by simp)).2 b rfl)
          by_cases h2 : 0 < b
          · by_cases h3 : Int.gcd a b = 1
            · simp [m__law_is_ratio, e__law_is_ratio, sCons, sSet, sRet, sNil, sIf, sSub, VE.tAnd, VE.tOr, VE.tNot, tCm, tE, xCmp, xIx, xBin, xBi, xOwn, xIte, xNeg, xTup, xLst, xCons, xNil, xACons, xANil, xVar, xC, Rs.bind, Rs.toF, Rs.of, Rf.of, deref, getSl, putI, VE.stI, mayStore, binD, binI, endF, outS, ixD, at40, at41, at42, at43, bi_len, bi_int, bi_abs, cm_eq, cm_lt, cm_gt, lend, lend1, atsOf, giveBack, findArg, comb, whole, truD, xAnd, xOr, xNot, xCmp2, xIsi, tyD, isi_NoneType_int, isi_NoneType_bool, isi_NoneType_tuple, isi_bool_int, isi_bool_bool, isi_bool_tuple, isi_int_int, isi_int_bool, isi_int_tuple, isi_str_int, isi_str_bool, isi_str_tuple, isi_tuple_int, isi_tuple_bool, isi_tuple_tuple, isi_list_int, isi_list_bool, isi_list_tuple, cm_le, cm_ge, cn1, cn2, cn3, cn4, bi_len, bi_lenT, cm_ne, at20, at21, at10, c2n, isR, e1, e2, e3, isI, h2, h3]
            · have h4 : ¬ ((Int.gcd a b : Nat) : Int) = 1 := by omega
              simp [m__law_is_ratio, e__law_is_ratio, sCons, sSet, sRet, sNil, sIf, sSub, VE.tAnd, VE.tOr, VE.tNot, tCm, tE, xCmp, xIx, xBin, xBi, xOwn, xIte, xNeg, xTup, xLst, xCons, xNil, xACons, xANil, xVar, xC, Rs.bind, Rs.toF, Rs.of, Rf.of, deref, getSl, putI, VE.stI, mayStore, binD, binI, endF, outS, ixD, at40, at41, at42, at43, bi_len, bi_int, bi_abs, cm_eq, cm_lt, cm_gt, lend, lend1, atsOf, giveBack, findArg, comb, whole, truD, xAnd, xOr, xNot, xCmp2, xIsi, tyD, isi_NoneType_int, isi_NoneType_bool, isi_NoneType_tuple, isi_bool_int, isi_bool_bool, isi_bool_tuple, isi_int_int, isi_int_bool, isi_int_tuple, isi_str_int, isi_str_bool, isi_str_tuple, isi_tuple_int, isi_tuple_bool, isi_tuple_tuple, isi_list_int, isi_list_bool, isi_list_tuple, cm_le, cm_ge, cn1, cn2, cn3, cn4, bi_len, bi_lenT, cm_ne, at20, at21, at10, c2n, isR, e1, e2, e3, isI, h2, h3, h4]
          · simp [m__law_is_ratio, e__law_is_ratio, sCons, sSet, sRet, sNil, sIf, sSub, VE.tAnd, VE.tOr, VE.tNot, tCm, tE, xCmp, xIx, xBin, xBi, xOwn, xIte, xNeg, xTup, xLst, xCons, xNil, xACons, xANil, xVar, xC, Rs.bind, Rs.toF, Rs.of, Rf.of, deref, getSl, putI, VE.stI, mayStore, binD, binI, endF, outS, ixD, at40, at41, at42, at43, bi_len, bi_int, bi_abs, cm_eq, cm_lt, cm_gt, lend, lend1, atsOf, giveBack, findArg, comb, whole, truD, xAnd, xOr, xNot, xCmp2, xIsi, tyD, isi_NoneType_int, isi_NoneType_bool, isi_NoneType_tuple, isi_bool_int, isi_bool_bool, isi_bool_tuple, isi_int_int, isi_int_bool, isi_int_tuple, isi_str_int, isi_str_bool, isi_str_tuple, isi_tuple_int, isi_tuple_bool, isi_tuple_tuple, isi_list_int, isi_list_bool, isi_list_tuple, cm_le, cm_ge, cn1, cn2, cn3, cn4, bi_len, bi_lenT, cm_ne, at20, at21, at10, c2n, isR, e1, e2, isI, h2]
        | _ => simp [m__law_is_ratio, e__law_is_ratio, sCons, sSet, sRet, sNil, sIf, sSub, VE.tAnd, VE.tOr, VE.tNot, tCm, tE, xCmp, xIx, xBin, xBi, xOwn, xIte, xNeg, xTup, xLst, xCons, xNil, xACons, xANil, xVar, xC, Rs.bind, Rs.toF, Rs.of, Rf.of, deref, getSl, putI, VE.stI, mayStore, binD, binI, endF, outS, ixD, at40, at41, at42, at43, bi_len, bi_int, bi_abs, cm_eq, cm_lt, cm_gt, lend, lend1, atsOf, giveBack, findArg, comb, whole, truD, xAnd, xOr, xNot, xCmp2, xIsi, tyD, isi_NoneType_int, isi_NoneType_bool, isi_NoneType_tuple, isi_bool_int, isi_bool_bool, isi_bool_tuple, isi_int_int, isi_int_bool, isi_int_tuple, isi_str_int, isi_str_bool, isi_str_tuple, isi_tuple_int, isi_tuple_bool, isi_tuple_tuple, isi_list_int, isi_list_bool, isi_list_tuple, cm_le, cm_ge, cn1, cn2, cn3, cn4, bi_len, bi_lenT, cm_ne, at20, at21, at10, c2n, isR, e1, e2, isI]
      | _ => simp [m__law_is_ratio, e__law_is_ratio, sCons, sSet, sRet, sNil, sIf, sSub, VE.tAnd, VE.tOr, VE.tNot, tCm, tE, xCmp, xIx, xBin, xBi, xOwn, xIte, xNeg, xTup, xLst, xCons, xNil, xACons, xANil, xVar, xC, Rs.bind, Rs.toF, Rs.of, Rf.of, deref, getSl, putI, VE.stI, mayStore, binD, binI, endF, outS, ixD, at40, at41, at42, at43, bi_len, bi_int, bi_abs, cm_eq, cm_lt, cm_gt, lend, lend1, atsOf, giveBack, findArg, comb, whole, truD, xAnd, xOr, xNot, xCmp2, xIsi, tyD, isi_NoneType_int, isi_NoneType_bool, isi_NoneType_tuple, isi_bool_int, isi_bool_bool, isi_bool_tuple, isi_int_int, isi_int_bool, isi_int_tuple, isi_str_int, isi_str_bool, isi_str_tuple, isi_tuple_int, isi_tuple_bool, isi_tuple_tuple, isi_list_int, isi_list_bool, isi_list_tuple, cm_le, cm_ge, cn1, cn2, cn3, cn4, bi_len, bi_lenT, cm_ne, at20, at21, at10, c2n, isR, e1, e2, isI]
  | _ => simp [m__law_is_ratio, e__law_is_ratio, sCons, sSet, sRet, sNil, sIf, sSub, VE.tAnd, VE.tOr, VE.tNot, tCm, tE, xCmp, xIx, xBin, xBi, xOwn, xIte, xNeg, xTup, xLst, xCons, xNil, xACons, xANil, xVar, xC, Rs.bind, Rs.toF, Rs.of, Rf.of, deref, getSl, putI, VE.stI, mayStore, binD, binI, endF, outS, ixD, at40, at41, at42, at43, bi_len, bi_int, bi_abs, cm_eq, cm_lt, cm_gt, lend, lend1, atsOf, giveBack, findArg, comb, whole, truD, xAnd, xOr, xNot, xCmp2, xIsi, tyD, isi_NoneType_int, isi_NoneType_bool, isi_NoneType_tuple, isi_bool_int, isi_bool_bool, isi_bool_tuple, isi_int_int, isi_int_bool, isi_int_tuple, isi_str_int, isi_str_bool, isi_str_tuple, isi_tuple_int, isi_tuple_bool, isi_tuple_tuple, isi_list_int, isi_list_bool, isi_list_tuple, cm_le, cm_ge, cn1, cn2, cn3, cn4, bi_len, bi_lenT, cm_ne, at20, at21, at10, c2n, isR]
end LawP
end

section
set_option Elab.async false
set_option linter.all false
set_option maxRecDepth 100000
set_option maxHeartbeats 4000000
namespace LawP
open PySem PySem.Spec L2 VE
theorem cm_rd {a b c d : Int} : cmpD .Eq (.tup [.int a, .int b]) (.tup [.int c, .int d]) = some (decide (a = c) && (decide (b = d) && true)) := rfl
theorem cm_bb {a b : Bool} : cmpD .Eq (.bl a) (.bl b) = some (decide (a = b)) := by cases a <;> cases b <;> rfl
theorem c_same (k : Nat) {p q : Int × Int} (h1 : p.1.natAbs < 2 ^ 1900) (h2 : p.2.natAbs < 2 ^ 1900) : (Mk (k + 3)).call "_law_same_ratio" [.fz (RD p), .fz (RD q)] = .ret (.bl (isR (RD p) && decide (p = q))) false [.fz (RD p), .fz (RD q)] := by
  rw [call_eq (k := k + 2) (e := e__law_same_ratio) rfl (mo__law_same_ratio (k + 2)) rfl rfl]
  have e := c_lis_ratio k (d := RD p) (fun x hx => by
    simp at hx
    rcases hx with rfl | rfl
    · exact ⟨rfl, fun a e => by cases e; exact h1⟩
    · exact ⟨rfl, fun a e => by cases e; exact h2⟩)
  obtain ⟨p1, p2⟩ := p
  obtain ⟨q1, q2⟩ := q
  have ed : decide ((p1, p2) = (q1, q2)) = (decide (p1 = q1) && decide (p2 = q2)) := by
    by_cases a : p1 = q1 <;> by_cases b : p2 = q2 <;> simp [a, b]
  rw [ed]
  simp only [RD] at e ⊢
  cases hr : isR (.tup [.int p1, .int p2]) with
  | true =>
    rw [hr] at e
    simp [m__law_same_ratio, e__law_same_ratio, sCons, sSet, sRet, sNil, sIf, sSub, VE.tAnd, VE.tOr, VE.tNot, tCm, tE, xCmp, xIx, xBin, xBi, xOwn, xIte, xNeg, xTup, xLst, xCons, xNil, xACons, xANil, xVar, xC, Rs.bind, Rs.toF, Rs.of, Rf.of, deref, getSl, putI, VE.stI, mayStore, binD, binI, endF, outS, ixD, at40, at41, at42, at43, bi_len, bi_int, bi_abs, cm_eq, cm_lt, cm_gt, lend, lend1, atsOf, giveBack, findArg, comb, whole, truD, xAnd, xOr, xNot, xCmp2, xIsi, tyD, isi_NoneType_int, isi_NoneType_bool, isi_NoneType_tuple, isi_bool_int, isi_bool_bool, isi_bool_tuple, isi_int_int, isi_int_bool, isi_int_tuple, isi_str_int, isi_str_bool, isi_str_tuple, isi_tuple_int, isi_tuple_bool, isi_tuple_tuple, isi_list_int, isi_list_bool, isi_list_tuple, cm_le, cm_ge, cn1, cn2, cn3, cn4, bi_lenT, cm_ne, at20, at21, at10, e, cm_rd]
  | false =>
    rw [hr] at e
    simp [m__law_same_ratio, e__law_same_ratio, sCons, sSet, sRet, sNil, sIf, sSub, VE.tAnd, VE.tOr, VE.tNot, tCm, tE, xCmp, xIx, xBin, xBi, xOwn, xIte, xNeg, xTup, xLst, xCons, xNil, xACons, xANil, xVar, xC, Rs.bind, Rs.toF, Rs.of, Rf.of, deref, getSl, putI, VE.stI, mayStore, binD, binI, endF, outS, ixD, at40, at41, at42, at43, bi_len, bi_int, bi_abs, cm_eq, cm_lt, cm_gt, lend, lend1, atsOf, giveBack, findArg, comb, whole, truD, xAnd, xOr, xNot, xCmp2, xIsi, tyD, isi_NoneType_int, isi_NoneType_bool, isi_NoneType_tuple, isi_bool_int, isi_bool_bool, isi_bool_tuple, isi_int_int, isi_int_bool, isi_int_tuple, isi_str_int, isi_str_bool, isi_str_tuple, isi_tuple_int, isi_tuple_bool, isi_tuple_tuple, isi_list_int, isi_list_bool, isi_list_tuple, cm_le, cm_ge, cn1, cn2, cn3, cn4, bi_lenT, cm_ne, at20, at21, at10, e, cm_rd]
theorem c_truth (k : Nat) {a b : Bool} : (Mk (k + 1)).call "_law_truth" [.fz (.bl a), .fz (.bl b)] = .ret (.bl (decide (a = b))) false [.fz (.bl a), .fz (.bl b)] := by
  rw [call_eq (e := e__law_truth) rfl (mo__law_truth k) rfl rfl]
  simp [m__law_truth, e__law_truth, sCons, sSet, sRet, sNil, sIf, sSub, VE.tAnd, VE.tOr, VE.tNot, tCm, tE, xCmp, xIx, xBin, xBi, xOwn, xIte, xNeg, xTup, xLst, xCons, xNil, xACons, xANil, xVar, xC, Rs.bind, Rs.toF, Rs.of, Rf.of, deref, getSl, putI, VE.stI, mayStore, binD, binI, endF, outS, ixD, at40, at41, at42, at43, bi_len, bi_int, bi_abs, cm_eq, cm_lt, cm_gt, lend, lend1, atsOf, giveBack, findArg, comb, whole, truD, xAnd, xOr, xNot, xCmp2, xIsi, tyD, isi_NoneType_int, isi_NoneType_bool, isi_NoneType_tuple, isi_bool_int, isi_bool_bool, isi_bool_tuple, isi_int_int, isi_int_bool, isi_int_tuple, isi_str_int, isi_str_bool, isi_str_tuple, isi_tuple_int, isi_tuple_bool, isi_tuple_tuple, isi_list_int, isi_list_bool, isi_list_tuple, cm_le, cm_ge, cn1, cn2, cn3, cn4, bi_lenT, cm_ne, at20, at21, at10, cm_bb]
/-- ints of so many bits -/
abbrev Bt (n : Nat) (i : Int) : Prop := i.natAbs < 2 ^ n
theorem Bt.mul {n m : Nat} {i j : Int} (h : Bt n i) (g : Bt m j) : Bt (n + m) (i * j) := by
  unfold Bt at *
  rw [Int.natAbs_mul, Nat.pow_add]
  exact Nat.mul_lt_mul'' h g
theorem Bt.add {n : Nat} {i j : Int} (h : Bt n i) (g : Bt n j) : Bt (n + 1) (i + j) := by
  unfold Bt at *
  have := Int.natAbs_add_le i j
  rw [Nat.pow_succ]
  omega
theorem Bt.neg {n : Nat} {i : Int} (h : Bt n i) : Bt n (-i) := by
  unfold Bt at *
  rw [Int.natAbs_neg]
  exact h
theorem Bt.sub {n : Nat} {i j : Int} (h : Bt n i) (g : Bt n j) : Bt (n + 1) (i - j) := by
  rw [Int.sub_eq_add_neg]
  exact h.add g.neg
theorem Bt.mono {n m : Nat} {i : Int} (h : Bt n i) (l : n ≤ m) : Bt m i := Nat.lt_of_lt_of_le h (Nat.pow_le_pow_right (by decide) l)
theorem Bt.ok {n m : Nat} {i j : Int} (h : Bt n i) (g : Bt m j) (hn : 0 < n) (hm : 0 < m) (l : n + m ≤ 1000000) : mulOk i j = true := mulOk_of n m h g hn hm l
/-- a ratio of at most n bits -/
structure Qo (n : Nat) (p : Int × Int) : Prop where
  ps : 0 < p.2
  g : Int.gcd p.1 p.2 = 1
  a : Bt n p.1
  b : Bt n p.2
theorem c_lplus (k : Nat) {n : Nat} {p q : Int × Int} (hp : Qo n p) (hq : Qo n q) (hn : 0 < n) (hl : n ≤ 900) : (Mk (k + 3)).call "_law_plus" [.fz (RD p), .fz (RD q)] = .ret (RD (rat (p.1 * q.2 + q.1 * p.2) (p.2 * q.2))) false [.fz (RD p), .fz (RD q)] := by
  rw [call_eq (k := k + 2) (e := e__law_plus) rfl (mo__law_plus (k + 2)) rfl rfl]
  have m1 := hp.a.ok hq.b hn hn (by omega)
  have m2 := hq.a.ok hp.b hn hn (by omega)
  have m3 := hp.b.ok hq.b hn hn (by omega)
  have e := c_ratio k (p.1 * q.2 + q.1 * p.2) (p.2 * q.2) (((hp.a.mul hq.b).add (hq.a.mul hp.b)).mono (m := 1900) (by omega)) ((hp.b.mul hq.b).mono (m := 1900) (by omega)) (Int.ne_of_gt (Int.mul_pos hp.ps hq.ps))
  simp [m__law_plus, e__law_plus, sCons, sSet, sRet, sNil, sIf, sSub, VE.tAnd, VE.tOr, VE.tNot, tCm, tE, xCmp, xIx, xBin, xBi, xOwn, xIte, xNeg, xTup, xLst, xCons, xNil, xACons, xANil, xVar, xC, Rs.bind, Rs.toF, Rs.of, Rf.of, deref, getSl, putI, VE.stI, mayStore, binD, binI, endF, outS, ixD, at40, at41, at42, at43, bi_len, bi_int, bi_abs, cm_eq, cm_lt, cm_gt, lend, lend1, atsOf, giveBack, findArg, comb, whole, truD, xAnd, xOr, xNot, xCmp2, xIsi, tyD, isi_NoneType_int, isi_NoneType_bool, isi_NoneType_tuple, isi_bool_int, isi_bool_bool, isi_bool_tuple, isi_int_int, isi_int_bool, isi_int_tuple, isi_str_int, isi_str_bool, isi_str_tuple, isi_tuple_int, isi_tuple_bool, isi_tuple_tuple, isi_list_int, isi_list_bool, isi_list_tuple, cm_le, cm_ge, cn1, cn2, cn3, cn4, bi_lenT, cm_ne, at20, at21, at10, RD, m1, m2, m3] at e ⊢
  simp [e, outS]
end LawP
end

section
set_option Elab.async false
set_option linter.all false
set_option maxRecDepth 100000
set_option maxHeartbeats 4000000
namespace LawP
open PySem PySem.Spec L2 VE
theorem bt_div {n : Nat} {a : Int} {g : Nat} (h : Bt n a) (d : (g : Int) ∣ a) : Bt n (a / g) := by
  unfold Bt at *
  rw [Int.natAbs_ediv_of_dvd d]
  exact Nat.lt_of_le_of_lt (Nat.div_le_self _ _) h
theorem rat_ok {n : Nat} {a b : Int} (h0 : b ≠ 0) (ha : Bt n a) (hb : Bt n b) : Qo n (rat a b) := by
  have h1 : 0 < Int.gcd a b := Int.gcd_pos_of_ne_zero_right _ h0
  have da : ((Int.gcd a b : Nat) : Int) ∣ a := Int.gcd_dvd_left ..
  have db : ((Int.gcd a b : Nat) : Int) ∣ b := Int.gcd_dvd_right ..
  unfold rat
  by_cases hn : b < 0
  · rw [if_pos hn]
    have eg : Int.gcd (-a) (-b) = Int.gcd a b := by simp
    refine ⟨Int.ediv_pos_of_pos_of_dvd (by omega) (by omega) (Int.dvd_neg.mpr db), ?_, bt_div ha.neg (Int.dvd_neg.mpr da), bt_div hb.neg (Int.dvd_neg.mpr db)⟩
    have := Int.gcd_ediv_gcd_ediv_gcd (i := -a) (j := -b) (by rw [eg]; exact h1)
    rw [eg] at this
    exact this
  · rw [if_neg hn]
    exact ⟨Int.ediv_pos_of_pos_of_dvd (by omega) (by omega) db, Int.gcd_ediv_gcd_ediv_gcd h1, bt_div ha da, bt_div hb db⟩
theorem isR_q {n : Nat} {p : Int × Int} (h : Qo n p) : isR (RD p) = true := by
  unfold RD isR
  simp [h.ps, h.g]
theorem rat_one (a : Int) : rat a 1 = (a, 1) := by
  unfold rat
  simp
theorem c_plus (k : Nat) {n : Nat} {p q : Int × Int} (hp : Qo n p) (hq : Qo n q) (hn : 0 < n) (hl : n ≤ 900) : (Mk (k + 2)).call "plus" [.fz (RD p), .fz (RD q)] = .ret (RD (rat (p.1 * q.2 + q.1 * p.2) (p.2 * q.2))) false [.fz (RD p), .fz (RD q)] := by
  rw [call_eq (k := k + 1) (e := e_plus) rfl (mo_plus (k + 1)) rfl rfl]
  by_cases h1 : p.2 = 1 ∧ q.2 = 1
  · obtain ⟨h1, h2⟩ := h1
    rw [h1, h2, Int.mul_one, Int.mul_one, Int.mul_one, rat_one]
    simp [m_plus, e_plus, sCons, sSet, sRet, sNil, sIf, sSub, VE.tAnd, VE.tOr, VE.tNot, tCm, tE, xCmp, xIx, xBin, xBi, xOwn, xIte, xNeg, xTup, xLst, xCons, xNil, xACons, xANil, xVar, xC, Rs.bind, Rs.toF, Rs.of, Rf.of, deref, getSl, putI, VE.stI, mayStore, binD, binI, endF, outS, ixD, at40, at41, at42, at43, bi_len, bi_int, bi_abs, cm_eq, cm_lt, cm_gt, lend, lend1, atsOf, giveBack, findArg, comb, whole, truD, xAnd, xOr, xNot, xCmp2, xIsi, tyD, isi_NoneType_int, isi_NoneType_bool, isi_NoneType_tuple, isi_bool_int, isi_bool_bool, isi_bool_tuple, isi_int_int, isi_int_bool, isi_int_tuple, isi_str_int, isi_str_bool, isi_str_tuple, isi_tuple_int, isi_tuple_bool, isi_tuple_tuple, isi_list_int, isi_list_bool, isi_list_tuple, cm_le, cm_ge, cn1, cn2, cn3, cn4, bi_lenT, cm_ne, at20, at21, at10, RD, h1, h2, sz2]
  · have m1 := hp.a.ok hq.b hn hn (by omega)
    have m2 := hq.a.ok hp.b hn hn (by omega)
    have m3 := hp.b.ok hq.b hn hn (by omega)
    have e := c_lowest k (p.1 * q.2 + q.1 * p.2) (p.2 * q.2) (((hp.a.mul hq.b).add (hq.a.mul hp.b)).mono (m := 1900) (by omega)) ((hp.b.mul hq.b).mono (m := 1900) (by omega)) (Int.mul_pos hp.ps hq.ps)
    by_cases h2 : p.2 = 1
    · have h3 : ¬ q.2 = 1 := fun z => h1 ⟨h2, z⟩
      simp only [RD, h2, Int.mul_one, Int.one_mul] at e m1 m2 m3 ⊢
      simp [m_plus, e_plus, sCons, sSet, sRet, sNil, sIf, sSub, VE.tAnd, VE.tOr, VE.tNot, tCm, tE, xCmp, xIx, xBin, xBi, xOwn, xIte, xNeg, xTup, xLst, xCons, xNil, xACons, xANil, xVar, xC, Rs.bind, Rs.toF, Rs.of, Rf.of, deref, getSl, putI, VE.stI, mayStore, binD, binI, endF, outS, ixD, at40, at41, at42, at43, bi_len, bi_int, bi_abs, cm_eq, cm_lt, cm_gt, lend, lend1, atsOf, giveBack, findArg, comb, whole, truD, xAnd, xOr, xNot, xCmp2, xIsi, tyD, isi_NoneType_int, isi_NoneType_bool, isi_NoneType_tuple, isi_bool_int, isi_bool_bool, isi_bool_tuple, isi_int_int, isi_int_bool, isi_int_tuple, isi_str_int, isi_str_bool, isi_str_tuple, isi_tuple_int, isi_tuple_bool, isi_tuple_tuple, isi_list_int, isi_list_bool, isi_list_tuple, cm_le, cm_ge, cn1, cn2, cn3, cn4, bi_lenT, cm_ne, at20, at21, at10, m1, m2, m3, h2, h3, e]
    · simp only [RD] at e ⊢
      simp [m_plus, e_plus, sCons, sSet, sRet, sNil, sIf, sSub, VE.tAnd, VE.tOr, VE.tNot, tCm, tE, xCmp, xIx, xBin, xBi, xOwn, xIte, xNeg, xTup, xLst, xCons, xNil, xACons, xANil, xVar, xC, Rs.bind, Rs.toF, Rs.of, Rf.of, deref, getSl, putI, VE.stI, mayStore, binD, binI, endF, outS, ixD, at40, at41, at42, at43, bi_len, bi_int, bi_abs, cm_eq, cm_lt, cm_gt, lend, lend1, atsOf, giveBack, findArg, comb, whole, truD, xAnd, xOr, xNot, xCmp2, xIsi, tyD, isi_NoneType_int, isi_NoneType_bool, isi_NoneType_tuple, isi_bool_int, isi_bool_bool, isi_bool_tuple, isi_int_int, isi_int_bool, isi_int_tuple, isi_str_int, isi_str_bool, isi_str_tuple, isi_tuple_int, isi_tuple_bool, isi_tuple_tuple, isi_list_int, isi_list_bool, isi_list_tuple, cm_le, cm_ge, cn1, cn2, cn3, cn4, bi_lenT, cm_ne, at20, at21, at10, m1, m2, m3, h2, e]
theorem c_minus (k : Nat) {n : Nat} {p q : Int × Int} (hp : Qo n p) (hq : Qo n q) (hn : 0 < n) (hl : n ≤ 900) : (Mk (k + 2)).call "minus" [.fz (RD p), .fz (RD q)] = .ret (RD (rat (p.1 * q.2 - q.1 * p.2) (p.2 * q.2))) false [.fz (RD p), .fz (RD q)] := by
  rw [call_eq (k := k + 1) (e := e_minus) rfl (mo_minus (k + 1)) rfl rfl]
  have m1 := hp.a.ok hq.b hn hn (by omega)
  have m2 := hq.a.ok hp.b hn hn (by omega)
  have m3 := hp.b.ok hq.b hn hn (by omega)
  have e := c_lowest k (p.1 * q.2 - q.1 * p.2) (p.2 * q.2) (((hp.a.mul hq.b).sub (hq.a.mul hp.b)).mono (m := 1900) (by omega)) ((hp.b.mul hq.b).mono (m := 1900) (by omega)) (Int.mul_pos hp.ps hq.ps)
  simp only [RD] at e ⊢
  simp [m_minus, e_minus, sCons, sSet, sRet, sNil, sIf, sSub, VE.tAnd, VE.tOr, VE.tNot, tCm, tE, xCmp, xIx, xBin, xBi, xOwn, xIte, xNeg, xTup, xLst, xCons, xNil, xACons, xANil, xVar, xC, Rs.bind, Rs.toF, Rs.of, Rf.of, deref, getSl, putI, VE.stI, mayStore, binD, binI, endF, outS, ixD, at40, at41, at42, at43, bi_len, bi_int, bi_abs, cm_eq, cm_lt, cm_gt, lend, lend1, atsOf, giveBack, findArg, comb, whole, truD, xAnd, xOr, xNot, xCmp2, xIsi, tyD, isi_NoneType_int, isi_NoneType_bool, isi_NoneType_tuple, isi_bool_int, isi_bool_bool, isi_bool_tuple, isi_int_int, isi_int_bool, isi_int_tuple, isi_str_int, isi_str_bool, isi_str_tuple, isi_tuple_int, isi_tuple_bool, isi_tuple_tuple, isi_list_int, isi_list_bool, isi_list_tuple, cm_le, cm_ge, cn1, cn2, cn3, cn4, bi_lenT, cm_ne, at20, at21, at10, m1, m2, m3, e]
theorem c_times (k : Nat) {n : Nat} {p q : Int × Int} (hp : Qo n p) (hq : Qo n q) (hn : 0 < n) (hl : n ≤ 900) : (Mk (k + 2)).call "times" [.fz (RD p), .fz (RD q)] = .ret (RD (rat (p.1 * q.1) (p.2 * q.2))) false [.fz (RD p), .fz (RD q)] := by
  rw [call_eq (k := k + 1) (e := e_times) rfl (mo_times (k + 1)) rfl rfl]
  have m1 := hp.a.ok hq.a hn hn (by omega)
  have m3 := hp.b.ok hq.b hn hn (by omega)
  have e := c_lowest k (p.1 * q.1) (p.2 * q.2) ((hp.a.mul hq.a).mono (m := 1900) (by omega)) ((hp.b.mul hq.b).mono (m := 1900) (by omega)) (Int.mul_pos hp.ps hq.ps)
  simp only [RD] at e ⊢
  simp [m_times, e_times, sCons, sSet, sRet, sNil, sIf, sSub, VE.tAnd, VE.tOr, VE.tNot, tCm, tE, xCmp, xIx, xBin, xBi, xOwn, xIte, xNeg, xTup, xLst, xCons, xNil, xACons, xANil, xVar, xC, Rs.bind, Rs.toF, Rs.of, Rf.of, deref, getSl, putI, VE.stI, mayStore, binD, binI, endF, outS, ixD, at40, at41, at42, at43, bi_len, bi_int, bi_abs, cm_eq, cm_lt, cm_gt, lend, lend1, atsOf, giveBack, findArg, comb, whole, truD, xAnd, xOr, xNot, xCmp2, xIsi, tyD, isi_NoneType_int, isi_NoneType_bool, isi_NoneType_tuple, isi_bool_int, isi_bool_bool, isi_bool_tuple, isi_int_int, isi_int_bool, isi_int_tuple, isi_str_int, isi_str_bool, isi_str_tuple, isi_tuple_int, isi_tuple_bool, isi_tuple_tuple, isi_list_int, isi_list_bool, isi_list_tuple, cm_le, cm_ge, cn1, cn2, cn3, cn4, bi_lenT, cm_ne, at20, at21, at10, m1, m3, e]
theorem c_ltimes (k : Nat) {n : Nat} {p q : Int × Int} (hp : Qo n p) (hq : Qo n q) (hn : 0 < n) (hl : n ≤ 900) : (Mk (k + 3)).call "_law_times" [.fz (RD p), .fz (RD q)] = .ret (RD (rat (p.1 * q.1) (p.2 * q.2))) false [.fz (RD p), .fz (RD q)] := by
  rw [call_eq (k := k + 2) (e := e__law_times) rfl (mo__law_times (k + 2)) rfl rfl]
  have m1 := hp.a.ok hq.a hn hn (by omega)
  have m3 := hp.b.ok hq.b hn hn (by omega)
  have e := c_ratio k (p.1 * q.1) (p.2 * q.2) ((hp.a.mul hq.a).mono (m := 1900) (by omega)) ((hp.b.mul hq.b).mono (m := 1900) (by omega)) (Int.ne_of_gt (Int.mul_pos hp.ps hq.ps))
  simp only [RD] at e ⊢
  simp [m__law_times, e__law_times, sCons, sSet, sRet, sNil, sIf, sSub, VE.tAnd, VE.tOr, VE.tNot, tCm, tE, xCmp, xIx, xBin, xBi, xOwn, xIte, xNeg, xTup, xLst, xCons, xNil, xACons, xANil, xVar, xC, Rs.bind, Rs.toF, Rs.of, Rf.of, deref, getSl, putI, VE.stI, mayStore, binD, binI, endF, outS, ixD, at40, at41, at42, at43, bi_len, bi_int, bi_abs, cm_eq, cm_lt, cm_gt, lend, lend1, atsOf, giveBack, findArg, comb, whole, truD, xAnd, xOr, xNot, xCmp2, xIsi, tyD, isi_NoneType_int, isi_NoneType_bool, isi_NoneType_tuple, isi_bool_int, isi_bool_bool, isi_bool_tuple, isi_int_int, isi_int_bool, isi_int_tuple, isi_str_int, isi_str_bool, isi_str_tuple, isi_tuple_int, isi_tuple_bool, isi_tuple_tuple, isi_list_int, isi_list_bool, isi_list_tuple, cm_le, cm_ge, cn1, cn2, cn3, cn4, bi_lenT, cm_ne, at20, at21, at10, m1, m3, e]
theorem c_compare (k : Nat) {n : Nat} {p q : Int × Int} (hp : Qo n p) (hq : Qo n q) (hn : 0 < n) (hl : n ≤ 900) : (Mk (k + 1)).call "compare" [.fz (RD p), .fz (RD q)] = .ret (.int (if p.1 * q.2 = q.1 * p.2 then 0 else if q.1 * p.2 < p.1 * q.2 then 1 else -1)) false [.fz (RD p), .fz (RD q)] := by
  rw [call_eq (e := e_compare) rfl (mo_compare k) rfl rfl]
  have m1 := hp.a.ok hq.b hn hn (by omega)
  have m2 := hq.a.ok hp.b hn hn (by omega)
  simp only [RD]
  by_cases h : p.1 * q.2 - q.1 * p.2 = 0
  · have h2 : p.1 * q.2 = q.1 * p.2 := by omega
    simp [m_compare, e_compare, sCons, sSet, sRet, sNil, sIf, sSub, VE.tAnd, VE.tOr, VE.tNot, tCm, tE, xCmp, xIx, xBin, xBi, xOwn, xIte, xNeg, xTup, xLst, xCons, xNil, xACons, xANil, xVar, xC, Rs.bind, Rs.toF, Rs.of, Rf.of, deref, getSl, putI, VE.stI, mayStore, binD, binI, endF, outS, ixD, at40, at41, at42, at43, bi_len, bi_int, bi_abs, cm_eq, cm_lt, cm_gt, lend, lend1, atsOf, giveBack, findArg, comb, whole, truD, xAnd, xOr, xNot, xCmp2, xIsi, tyD, isi_NoneType_int, isi_NoneType_bool, isi_NoneType_tuple, isi_bool_int, isi_bool_bool, isi_bool_tuple, isi_int_int, isi_int_bool, isi_int_tuple, isi_str_int, isi_str_bool, isi_str_tuple, isi_tuple_int, isi_tuple_bool, isi_tuple_tuple, isi_list_int, isi_list_bool, isi_list_tuple, cm_le, cm_ge, cn1, cn2, cn3, cn4, bi_lenT, cm_ne, at20, at21, at10, m1, m2, h, h2]
  · have h2 : ¬ p.1 * q.2 = q.1 * p.2 := by omega
    by_cases h3 : 0 < p.1 * q.2 - q.1 * p.2
    · have h4 : q.1 * p.2 < p.1 * q.2 := by omega
      simp [m_compare, e_compare, sCons, sSet, sRet, sNil, sIf, sSub, VE.tAnd, VE.tOr, VE.tNot, tCm, tE, xCmp, xIx, xBin, xBi, xOwn, xIte, xNeg, xTup, xLst, xCons, xNil, xACons, xANil, xVar, xC, Rs.bind, Rs.toF, Rs.of, Rf.of, deref, getSl, putI, VE.stI, mayStore, binD, binI, endF, outS, ixD, at40, at41, at42, at43, bi_len, bi_int, bi_abs, cm_eq, cm_lt, cm_gt, lend, lend1, atsOf, giveBack, findArg, comb, whole, truD, xAnd, xOr, xNot, xCmp2, xIsi, tyD, isi_NoneType_int, isi_NoneType_bool, isi_NoneType_tuple, isi_bool_int, isi_bool_bool, isi_bool_tuple, isi_int_int, isi_int_bool, isi_int_tuple, isi_str_int, isi_str_bool, isi_str_tuple, isi_tuple_int, isi_tuple_bool, isi_tuple_tuple, isi_list_int, isi_list_bool, isi_list_tuple, cm_le, cm_ge, cn1, cn2, cn3, cn4, bi_lenT, cm_ne, at20, at21, at10, m1, m2, h, h2, h3, h4]
    · have h4 : ¬ q.1 * p.2 < p.1 * q.2 := by omega
      simp [m_compare, e_compare, sCons, sSet, sRet, sNil, sIf, sSub, VE.tAnd, VE.tOr, VE.tNot, tCm, tE, xCmp, xIx, xBin, xBi, xOwn, xIte, xNeg, xTup, xLst, xCons, xNil, xACons, xANil, xVar, xC, Rs.bind, Rs.toF, Rs.of, Rf.of, deref, getSl, putI, VE.stI, mayStore, binD, binI, endF, outS, ixD, at40, at41, at42, at43, bi_len, bi_int, bi_abs, cm_eq, cm_lt, cm_gt, lend, lend1, atsOf, giveBack, findArg, comb, whole, truD, xAnd, xOr, xNot, xCmp2, xIsi, tyD, isi_NoneType_int, isi_NoneType_bool, isi_NoneType_tuple, isi_bool_int, isi_bool_bool, isi_bool_tuple, isi_int_int, isi_int_bool, isi_int_tuple, isi_str_int, isi_str_bool, isi_str_tuple, isi_tuple_int, isi_tuple_bool, isi_tuple_tuple, isi_list_int, isi_list_bool, isi_list_tuple, cm_le, cm_ge, cn1, cn2, cn3, cn4, bi_lenT, cm_ne, at20, at21, at10, m1, m2, h, h2, h3, h4]
end LawP
end

section
set_option Elab.async false
set_option linter.all false
set_option maxRecDepth 100000
set_option maxHeartbeats 4000000
namespace LawP
open PySem PySem.Spec L2 VE
theorem rat_neg {a b : Int} (h : b < 0) : rat (-a) (-b) = rat a b := by
  have h2 : ¬ -b < 0 := by omega
  unfold rat
  rw [if_pos h, if_neg h2]
  simp
theorem mkx1 {s : Str} : prg.tab.mkx (Str.ofString "BadRatio") [.str s] = some [(Str.ofString "what", .str s)] := rfl
/-- what make_ratio refuses -/
def bad : D → D → Option Str
  | .int _, .int b => if b = 0 then some (Str.ofString "bottom") else none
  | .int _, _ => some (Str.ofString "bottom")
  | _, _ => some (Str.ofString "top")
theorem c_make_bad (k : Nat) {x y : D} {s : Str} (hx : kd x = true) (hy : kd y = true) (hb : bad x y = some s) : (Mk (k + 2)).call "make_ratio" [.fz x, .fz y] = .exc (Str.ofString "BadRatio") [(Str.ofString "what", .str s)] [.fz x, .fz y] := by
  rw [call_eq (k := k + 1) (e := e_make_ratio) rfl (mo_make_ratio (k + 1)) rfl rfl]
  have e1 := c_is_whole k hx (l := .non) (h := .non) rfl rfl
  have e2 := c_is_whole k hy (l := .non) (h := .non) rfl rfl
  cases x with
  | int a =>
    cases y with
    | int b =>
      have hb' : (if b = 0 then some (Str.ofString "bottom") else none) = some s := hb
      split at hb'
      · rename_i h0
        subst h0
        cases hb'
        simp [m_make_ratio, e_make_ratio, sCons, sSet, sRet, sNil, sIf, sSub, VE.tAnd, VE.tOr, VE.tNot, tCm, tE, xCmp, xIx, xBin, xBi, xOwn, xIte, xNeg, xTup, xLst, xCons, xNil, xACons, xANil, xVar, xC, Rs.bind, Rs.toF, Rs.of, Rf.of, deref, getSl, putI, VE.stI, mayStore, binD, binI, endF, outS, ixD, at40, at41, at42, at43, bi_len, bi_int, bi_abs, cm_eq, cm_lt, cm_gt, lend, lend1, atsOf, giveBack, findArg, comb, whole, truD, xAnd, xOr, xNot, xCmp2, xIsi, tyD, isi_NoneType_int, isi_NoneType_bool, isi_NoneType_tuple, isi_bool_int, isi_bool_bool, isi_bool_tuple, isi_int_int, isi_int_bool, isi_int_tuple, isi_str_int, isi_str_bool, isi_str_tuple, isi_tuple_int, isi_tuple_bool, isi_tuple_tuple, isi_list_int, isi_list_bool, isi_list_tuple, cm_le, cm_ge, cn1, cn2, cn3, cn4, bi_lenT, cm_ne, at20, at21, at10, sRaise, e1, e2, wh, mkx1]
      · cases hb'
    | scr _ => cases hy
    | obj _ _ => cases hy
    | _ =>
      cases hb
      simp [m_make_ratio, e_make_ratio, sCons, sSet, sRet, sNil, sIf, sSub, VE.tAnd, VE.tOr, VE.tNot, tCm, tE, xCmp, xIx, xBin, xBi, xOwn, xIte, xNeg, xTup, xLst, xCons, xNil, xACons, xANil, xVar, xC, Rs.bind, Rs.toF, Rs.of, Rf.of, deref, getSl, putI, VE.stI, mayStore, binD, binI, endF, outS, ixD, at40, at41, at42, at43, bi_len, bi_int, bi_abs, cm_eq, cm_lt, cm_gt, lend, lend1, atsOf, giveBack, findArg, comb, whole, truD, xAnd, xOr, xNot, xCmp2, xIsi, tyD, isi_NoneType_int, isi_NoneType_bool, isi_NoneType_tuple, isi_bool_int, isi_bool_bool, isi_bool_tuple, isi_int_int, isi_int_bool, isi_int_tuple, isi_str_int, isi_str_bool, isi_str_tuple, isi_tuple_int, isi_tuple_bool, isi_tuple_tuple, isi_list_int, isi_list_bool, isi_list_tuple, cm_le, cm_ge, cn1, cn2, cn3, cn4, bi_lenT, cm_ne, at20, at21, at10, sRaise, e1, e2, wh, mkx1]
  | scr _ => cases hx
  | obj _ _ => cases hx
  | _ =>
    cases hb
    simp [m_make_ratio, e_make_ratio, sCons, sSet, sRet, sNil, sIf, sSub, VE.tAnd, VE.tOr, VE.tNot, tCm, tE, xCmp, xIx, xBin, xBi, xOwn, xIte, xNeg, xTup, xLst, xCons, xNil, xACons, xANil, xVar, xC, Rs.bind, Rs.toF, Rs.of, Rf.of, deref, getSl, putI, VE.stI, mayStore, binD, binI, endF, outS, ixD, at40, at41, at42, at43, bi_len, bi_int, bi_abs, cm_eq, cm_lt, cm_gt, lend, lend1, atsOf, giveBack, findArg, comb, whole, truD, xAnd, xOr, xNot, xCmp2, xIsi, tyD, isi_NoneType_int, isi_NoneType_bool, isi_NoneType_tuple, isi_bool_int, isi_bool_bool, isi_bool_tuple, isi_int_int, isi_int_bool, isi_int_tuple, isi_str_int, isi_str_bool, isi_str_tuple, isi_tuple_int, isi_tuple_bool, isi_tuple_tuple, isi_list_int, isi_list_bool, isi_list_tuple, cm_le, cm_ge, cn1, cn2, cn3, cn4, bi_lenT, cm_ne, at20, at21, at10, sRaise, e1, e2, wh, mkx1]
theorem c_make (k : Nat) {a b : Int} (ha : Bt 1900 a) (hb : Bt 1900 b) (h0 : b ≠ 0) : (Mk (k + 2)).call "make_ratio" [.fz (.int a), .fz (.int b)] = .ret (RD (rat a b)) false [.fz (.int a), .fz (.int b)] := by
  rw [call_eq (k := k + 1) (e := e_make_ratio) rfl (mo_make_ratio (k + 1)) rfl rfl]
  have e1 := c_is_whole k (d := .int a) rfl (l := .non) (h := .non) rfl rfl
  have e2 := c_is_whole k (d := .int b) rfl (l := .non) (h := .non) rfl rfl
  by_cases hn : b < 0
  · have e := c_lowest k (-a) (-b) (by simpa using ha) (by simpa using hb) (by omega)
    rw [rat_neg hn] at e
    simp [m_make_ratio, e_make_ratio, sCons, sSet, sRet, sNil, sIf, sSub, VE.tAnd, VE.tOr, VE.tNot, tCm, tE, xCmp, xIx, xBin, xBi, xOwn, xIte, xNeg, xTup, xLst, xCons, xNil, xACons, xANil, xVar, xC, Rs.bind, Rs.toF, Rs.of, Rf.of, deref, getSl, putI, VE.stI, mayStore, binD, binI, endF, outS, ixD, at40, at41, at42, at43, bi_len, bi_int, bi_abs, cm_eq, cm_lt, cm_gt, lend, lend1, atsOf, giveBack, findArg, comb, whole, truD, xAnd, xOr, xNot, xCmp2, xIsi, tyD, isi_NoneType_int, isi_NoneType_bool, isi_NoneType_tuple, isi_bool_int, isi_bool_bool, isi_bool_tuple, isi_int_int, isi_int_bool, isi_int_tuple, isi_str_int, isi_str_bool, isi_str_tuple, isi_tuple_int, isi_tuple_bool, isi_tuple_tuple, isi_list_int, isi_list_bool, isi_list_tuple, cm_le, cm_ge, cn1, cn2, cn3, cn4, bi_lenT, cm_ne, at20, at21, at10, sRaise, e1, e2, wh, h0, hn, e]
  · have e := c_lowest k a b ha hb (by omega)
    simp [m_make_ratio, e_make_ratio, sCons, sSet, sRet, sNil, sIf, sSub, VE.tAnd, VE.tOr, VE.tNot, tCm, tE, xCmp, xIx, xBin, xBi, xOwn, xIte, xNeg, xTup, xLst, xCons, xNil, xACons, xANil, xVar, xC, Rs.bind, Rs.toF, Rs.of, Rf.of, deref, getSl, putI, VE.stI, mayStore, binD, binI, endF, outS, ixD, at40, at41, at42, at43, bi_len, bi_int, bi_abs, cm_eq, cm_lt, cm_gt, lend, lend1, atsOf, giveBack, findArg, comb, whole, truD, xAnd, xOr, xNot, xCmp2, xIsi, tyD, isi_NoneType_int, isi_NoneType_bool, isi_NoneType_tuple, isi_bool_int, isi_bool_bool, isi_bool_tuple, isi_int_int, isi_int_bool, isi_int_tuple, isi_str_int, isi_str_bool, isi_str_tuple, isi_tuple_int, isi_tuple_bool, isi_tuple_tuple, isi_list_int, isi_list_bool, isi_list_tuple, cm_le, cm_ge, cn1, cn2, cn3, cn4, bi_lenT, cm_ne, at20, at21, at10, sRaise, e1, e2, wh, h0, hn, e]
/-- the law's due -/
def due (x y : D) : D := match bad x y with
  | some s => .str s
  | none => (match x, y with
    | .int a, .int b => RD (rat a b)
    | _, _ => .non)
theorem isx1 : prg.tab.isx (Str.ofString "BadRatio") (Str.ofString "BadRatio") = some true := rfl
theorem fok1 : prg.tab.fok (Str.ofString "BadRatio") (Str.ofString "what") = true := rfl
theorem lk1 {d : D} : List.lookup (Str.ofString "what") [(Str.ofString "what", d)] = some d := rfl
theorem c_lmake (k : Nat) {x y : D} (hx : okD x) (hy : okD y) (bx : ∀ a, x = .int a → Bt 1900 a) (by_ : ∀ a, y = .int a → Bt 1900 a) : (Mk (k + 3)).call "_law_make" [.fz x, .fz y] = .ret (due x y) false [.fz x, .fz y] := by
  rw [call_eq (k := k + 2) (e := e__law_make) rfl (mo__law_make (k + 2)) rfl rfl]
  cases hb : bad x y with
  | some s =>
    have e := c_make_bad k hx.kd hy.kd hb
    have ed : due x y = .str s := by unfold due; rw [hb]
    rw [ed]
    simp [m__law_make, e__law_make, sCons, sSet, sRet, sNil, sIf, sSub, VE.tAnd, VE.tOr, VE.tNot, tCm, tE, xCmp, xIx, xBin, xBi, xOwn, xIte, xNeg, xTup, xLst, xCons, xNil, xACons, xANil, xVar, xC, Rs.bind, Rs.toF, Rs.of, Rf.of, deref, getSl, putI, VE.stI, mayStore, binD, binI, endF, outS, ixD, at40, at41, at42, at43, bi_len, bi_int, bi_abs, cm_eq, cm_lt, cm_gt, lend, lend1, atsOf, giveBack, findArg, comb, whole, truD, xAnd, xOr, xNot, xCmp2, xIsi, tyD, isi_NoneType_int, isi_NoneType_bool, isi_NoneType_tuple, isi_bool_int, isi_bool_bool, isi_bool_tuple, isi_int_int, isi_int_bool, isi_int_tuple, isi_str_int, isi_str_bool, isi_str_tuple, isi_tuple_int, isi_tuple_bool, isi_tuple_tuple, isi_list_int, isi_list_bool, isi_list_tuple, cm_le, cm_ge, cn1, cn2, cn3, cn4, bi_lenT, cm_ne, at20, at21, at10, sTry, qSet, qFld, flatSl, e, isx1, fok1, lk1]
  | none =>
    cases x with
    | int a =>
      cases y with
      | int b =>
        have h0 : b ≠ 0 := fun z => by
          subst z
          cases hb
        have e := c_make k (bx a rfl) (by_ b rfl) h0
        have ed : due (.int a) (.int b) = RD (rat a b) := by unfold due; rw [hb]
        rw [ed]
        simp [m__law_make, e__law_make, sCons, sSet, sRet, sNil, sIf, sSub, VE.tAnd, VE.tOr, VE.tNot, tCm, tE, xCmp, xIx, xBin, xBi, xOwn, xIte, xNeg, xTup, xLst, xCons, xNil, xACons, xANil, xVar, xC, Rs.bind, Rs.toF, Rs.of, Rf.of, deref, getSl, putI, VE.stI, mayStore, binD, binI, endF, outS, ixD, at40, at41, at42, at43, bi_len, bi_int, bi_abs, cm_eq, cm_lt, cm_gt, lend, lend1, atsOf, giveBack, findArg, comb, whole, truD, xAnd, xOr, xNot, xCmp2, xIsi, tyD, isi_NoneType_int, isi_NoneType_bool, isi_NoneType_tuple, isi_bool_int, isi_bool_bool, isi_bool_tuple, isi_int_int, isi_int_bool, isi_int_tuple, isi_str_int, isi_str_bool, isi_str_tuple, isi_tuple_int, isi_tuple_bool, isi_tuple_tuple, isi_list_int, isi_list_bool, isi_list_tuple, cm_le, cm_ge, cn1, cn2, cn3, cn4, bi_lenT, cm_ne, at20, at21, at10, sTry, qSet, qFld, flatSl, e]
      | _ => cases hb
    | _ => cases hb
theorem c_due (k : Nat) {x y : D} (hx : okD x) (hy : okD y) (bx : ∀ a, x = .int a → Bt 1900 a) (by_ : ∀ a, y = .int a → Bt 1900 a) : (Mk (k + 3)).call "_law_due" [.fz x, .fz y] = .ret (due x y) false [.fz x, .fz y] := by
  rw [call_eq (k := k + 2) (e := e__law_due) rfl (mo__law_due (k + 2)) rfl rfl]
  have e1 := c_int (k + 1) hx.kd
  have e2 := c_int (k + 1) hy.kd
  cases x with
  | int a =>
    cases y with
    | int b =>
      by_cases h0 : b = 0
      · subst h0
        have ed : due (.int a) (.int 0) = .str (Str.ofString "bottom") := rfl
        rw [ed]
        simp [m__law_due, e__law_due, sCons, sSet, sRet, sNil, sIf, sSub, VE.tAnd, VE.tOr, VE.tNot, tCm, tE, xCmp, xIx, xBin, xBi, xOwn, xIte, xNeg, xTup, xLst, xCons, xNil, xACons, xANil, xVar, xC, Rs.bind, Rs.toF, Rs.of, Rf.of, deref, getSl, putI, VE.stI, mayStore, binD, binI, endF, outS, ixD, at40, at41, at42, at43, bi_len, bi_int, bi_abs, cm_eq, cm_lt, cm_gt, lend, lend1, atsOf, giveBack, findArg, comb, whole, truD, xAnd, xOr, xNot, xCmp2, xIsi, tyD, isi_NoneType_int, isi_NoneType_bool, isi_NoneType_tuple, isi_bool_int, isi_bool_bool, isi_bool_tuple, isi_int_int, isi_int_bool, isi_int_tuple, isi_str_int, isi_str_bool, isi_str_tuple, isi_tuple_int, isi_tuple_bool, isi_tuple_tuple, isi_list_int, isi_list_bool, isi_list_tuple, cm_le, cm_ge, cn1, cn2, cn3, cn4, bi_lenT, cm_ne, at20, at21, at10, e1, e2, isI]
      · have e := c_ratio k a b (bx a rfl) (by_ b rfl) h0
        have ed : due (.int a) (.int b) = RD (rat a b) := by
          have : bad (.int a) (.int b) = none := if_neg h0
          unfold due
          rw [this]
        rw [ed]
        simp [m__law_due, e__law_due, sCons, sSet, sRet, sNil, sIf, sSub, VE.tAnd, VE.tOr, VE.tNot, tCm, tE, xCmp, xIx, xBin, xBi, xOwn, xIte, xNeg, xTup, xLst, xCons, xNil, xACons, xANil, xVar, xC, Rs.bind, Rs.toF, Rs.of, Rf.of, deref, getSl, putI, VE.stI, mayStore, binD, binI, endF, outS, ixD, at40, at41, at42, at43, bi_len, bi_int, bi_abs, cm_eq, cm_lt, cm_gt, lend, lend1, atsOf, giveBack, findArg, comb, whole, truD, xAnd, xOr, xNot, xCmp2, xIsi, tyD, isi_NoneType_int, isi_NoneType_bool, isi_NoneType_tuple, isi_bool_int, isi_bool_bool, isi_bool_tuple, isi_int_int, isi_int_bool, isi_int_tuple, isi_str_int, isi_str_bool, isi_str_tuple, isi_tuple_int, isi_tuple_bool, isi_tuple_tuple, isi_list_int, isi_list_bool, isi_list_tuple, cm_le, cm_ge, cn1, cn2, cn3, cn4, bi_lenT, cm_ne, at20, at21, at10, e1, e2, isI, h0, e]
    | scr _ => exact hy.elim
    | obj _ _ => exact hy.elim
    | _ => simp [m__law_due, e__law_due, sCons, sSet, sRet, sNil, sIf, sSub, VE.tAnd, VE.tOr, VE.tNot, tCm, tE, xCmp, xIx, xBin, xBi, xOwn, xIte, xNeg, xTup, xLst, xCons, xNil, xACons, xANil, xVar, xC, Rs.bind, Rs.toF, Rs.of, Rf.of, deref, getSl, putI, VE.stI, mayStore, binD, binI, endF, outS, ixD, at40, at41, at42, at43, bi_len, bi_int, bi_abs, cm_eq, cm_lt, cm_gt, lend, lend1, atsOf, giveBack, findArg, comb, whole, truD, xAnd, xOr, xNot, xCmp2, xIsi, tyD, isi_NoneType_int, isi_NoneType_bool, isi_NoneType_tuple, isi_bool_int, isi_bool_bool, isi_bool_tuple, isi_int_int, isi_int_bool, isi_int_tuple, isi_str_int, isi_str_bool, isi_str_tuple, isi_tuple_int, isi_tuple_bool, isi_tuple_tuple, isi_list_int, isi_list_bool, isi_list_tuple, cm_le, cm_ge, cn1, cn2, cn3, cn4, bi_lenT, cm_ne, at20, at21, at10, e1, e2, isI, due, bad]
  | scr _ => exact hx.elim
  | obj _ _ => exact hx.elim
  | _ => simp [m__law_due, e__law_due, sCons, sSet, sRet, sNil, sIf, sSub, VE.tAnd, VE.tOr, VE.tNot, tCm, tE, xCmp, xIx, xBin, xBi, xOwn, xIte, xNeg, xTup, xLst, xCons, xNil, xACons, xANil, xVar, xC, Rs.bind, Rs.toF, Rs.of, Rf.of, deref, getSl, putI, VE.stI, mayStore, binD, binI, endF, outS, ixD, at40, at41, at42, at43, bi_len, bi_int, bi_abs, cm_eq, cm_lt, cm_gt, lend, lend1, atsOf, giveBack, findArg, comb, whole, truD, xAnd, xOr, xNot, xCmp2, xIsi, tyD, isi_NoneType_int, isi_NoneType_bool, isi_NoneType_tuple, isi_bool_int, isi_bool_bool, isi_bool_tuple, isi_int_int, isi_int_bool, isi_int_tuple, isi_str_int, isi_str_bool, isi_str_tuple, isi_tuple_int, isi_tuple_bool, isi_tuple_tuple, isi_list_int, isi_list_bool, isi_list_tuple, cm_le, cm_ge, cn1, cn2, cn3, cn4, bi_lenT, cm_ne, at20, at21, at10, e1, e2, isI, due, bad]
end LawP
end

section
set_option Elab.async false
set_option linter.all false
set_option maxRecDepth 100000
set_option maxHeartbeats 4000000
namespace LawP
open PySem PySem.Spec L2 VE
theorem c_over0 (k : Nat) {n : Nat} {p q : Int × Int} (hq : q.1 = 0) : (Mk (k + 1)).call "over" [.fz (RD p), .fz (RD q)] = .exc (Str.ofString "BadRatio") [(Str.ofString "what", .str (Str.ofString "zero"))] [.fz (RD p), .fz (RD q)] := by
  rw [call_eq (e := e_over) rfl (mo_over k) rfl rfl]
  simp only [RD]
  simp [m_over, e_over, sCons, sSet, sRet, sNil, sIf, sSub, VE.tAnd, VE.tOr, VE.tNot, tCm, tE, xCmp, xIx, xBin, xBi, xOwn, xIte, xNeg, xTup, xLst, xCons, xNil, xACons, xANil, xVar, xC, Rs.bind, Rs.toF, Rs.of, Rf.of, deref, getSl, putI, VE.stI, mayStore, binD, binI, endF, outS, ixD, at40, at41, at42, at43, bi_len, bi_int, bi_abs, cm_eq, cm_lt, cm_gt, lend, lend1, atsOf, giveBack, findArg, comb, whole, truD, xAnd, xOr, xNot, xCmp2, xIsi, tyD, isi_NoneType_int, isi_NoneType_bool, isi_NoneType_tuple, isi_bool_int, isi_bool_bool, isi_bool_tuple, isi_int_int, isi_int_bool, isi_int_tuple, isi_str_int, isi_str_bool, isi_str_tuple, isi_tuple_int, isi_tuple_bool, isi_tuple_tuple, isi_list_int, isi_list_bool, isi_list_tuple, cm_le, cm_ge, cn1, cn2, cn3, cn4, bi_lenT, cm_ne, at20, at21, at10, sRaise, mkx1, hq]
theorem c_over (k : Nat) {n : Nat} {p q : Int × Int} (hp : Qo n p) (hq : Qo n q) (hn : 0 < n) (hl : n ≤ 900) (h0 : q.1 ≠ 0) : (Mk (k + 3)).call "over" [.fz (RD p), .fz (RD q)] = .ret (RD (rat (p.1 * q.2) (p.2 * q.1))) false [.fz (RD p), .fz (RD q)] := by
  rw [call_eq (k := k + 2) (e := e_over) rfl (mo_over (k + 2)) rfl rfl]
  have m1 := hp.a.ok hq.b hn hn (by omega)
  have m2 := hp.b.ok hq.a hn hn (by omega)
  have e := c_make k (a := p.1 * q.2) (b := p.2 * q.1) ((hp.a.mul hq.b).mono (by omega)) ((hp.b.mul hq.a).mono (by omega)) (Int.mul_ne_zero (Int.ne_of_gt hp.ps) h0)
  simp only [RD] at e ⊢
  simp [m_over, e_over, sCons, sSet, sRet, sNil, sIf, sSub, VE.tAnd, VE.tOr, VE.tNot, tCm, tE, xCmp, xIx, xBin, xBi, xOwn, xIte, xNeg, xTup, xLst, xCons, xNil, xACons, xANil, xVar, xC, Rs.bind, Rs.toF, Rs.of, Rf.of, deref, getSl, putI, VE.stI, mayStore, binD, binI, endF, outS, ixD, at40, at41, at42, at43, bi_len, bi_int, bi_abs, cm_eq, cm_lt, cm_gt, lend, lend1, atsOf, giveBack, findArg, comb, whole, truD, xAnd, xOr, xNot, xCmp2, xIsi, tyD, isi_NoneType_int, isi_NoneType_bool, isi_NoneType_tuple, isi_bool_int, isi_bool_bool, isi_bool_tuple, isi_int_int, isi_int_bool, isi_int_tuple, isi_str_int, isi_str_bool, isi_str_tuple, isi_tuple_int, isi_tuple_bool, isi_tuple_tuple, isi_list_int, isi_list_bool, isi_list_tuple, cm_le, cm_ge, cn1, cn2, cn3, cn4, bi_lenT, cm_ne, at20, at21, at10, sRaise, m1, m2, h0, e]
def ovr (p q : Int × Int) : D := if q.1 = 0 then .str (Str.ofString "zero") else RD (rat (p.1 * q.2) (p.2 * q.1))
theorem c_lover (k : Nat) {n : Nat} {p q : Int × Int} (hp : Qo n p) (hq : Qo n q) (hn : 0 < n) (hl : n ≤ 900) : (Mk (k + 4)).call "_law_over" [.fz (RD p), .fz (RD q)] = .ret (ovr p q) false [.fz (RD p), .fz (RD q)] := by
  rw [call_eq (k := k + 3) (e := e__law_over) rfl (mo__law_over (k + 3)) rfl rfl]
  by_cases h0 : q.1 = 0
  · have e := c_over0 (k + 2) (n := n) (p := p) h0
    unfold ovr
    rw [if_pos h0]
    simp only [RD] at e ⊢
    simp [m__law_over, e__law_over, sCons, sSet, sRet, sNil, sIf, sSub, VE.tAnd, VE.tOr, VE.tNot, tCm, tE, xCmp, xIx, xBin, xBi, xOwn, xIte, xNeg, xTup, xLst, xCons, xNil, xACons, xANil, xVar, xC, Rs.bind, Rs.toF, Rs.of, Rf.of, deref, getSl, putI, VE.stI, mayStore, binD, binI, endF, outS, ixD, at40, at41, at42, at43, bi_len, bi_int, bi_abs, cm_eq, cm_lt, cm_gt, lend, lend1, atsOf, giveBack, findArg, comb, whole, truD, xAnd, xOr, xNot, xCmp2, xIsi, tyD, isi_NoneType_int, isi_NoneType_bool, isi_NoneType_tuple, isi_bool_int, isi_bool_bool, isi_bool_tuple, isi_int_int, isi_int_bool, isi_int_tuple, isi_str_int, isi_str_bool, isi_str_tuple, isi_tuple_int, isi_tuple_bool, isi_tuple_tuple, isi_list_int, isi_list_bool, isi_list_tuple, cm_le, cm_ge, cn1, cn2, cn3, cn4, bi_lenT, cm_ne, at20, at21, at10, sTry, qSet, qFld, flatSl, e, isx1, fok1, lk1]
  · have e := c_over k hp hq hn hl h0
    unfold ovr
    rw [if_neg h0]
    simp only [RD] at e ⊢
    simp [m__law_over, e__law_over, sCons, sSet, sRet, sNil, sIf, sSub, VE.tAnd, VE.tOr, VE.tNot, tCm, tE, xCmp, xIx, xBin, xBi, xOwn, xIte, xNeg, xTup, xLst, xCons, xNil, xACons, xANil, xVar, xC, Rs.bind, Rs.toF, Rs.of, Rf.of, deref, getSl, putI, VE.stI, mayStore, binD, binI, endF, outS, ixD, at40, at41, at42, at43, bi_len, bi_int, bi_abs, cm_eq, cm_lt, cm_gt, lend, lend1, atsOf, giveBack, findArg, comb, whole, truD, xAnd, xOr, xNot, xCmp2, xIsi, tyD, isi_NoneType_int, isi_NoneType_bool, isi_NoneType_tuple, isi_bool_int, isi_bool_bool, isi_bool_tuple, isi_int_int, isi_int_bool, isi_int_tuple, isi_str_int, isi_str_bool, isi_str_tuple, isi_tuple_int, isi_tuple_bool, isi_tuple_tuple, isi_list_int, isi_list_bool, isi_list_tuple, cm_le, cm_ge, cn1, cn2, cn3, cn4, bi_lenT, cm_ne, at20, at21, at10, sTry, qSet, qFld, flatSl, e]
end LawP
end

section
set_option Elab.async false
set_option linter.all false
set_option maxRecDepth 100000
set_option maxHeartbeats 4000000
namespace LawP
open PySem PySem.Spec L2 VE
theorem at60 {a b c d e f : D} : L2.atI [a, b, c, d, e, f] 0 = some a := rfl
theorem at61 {a b c d e f : D} : L2.atI [a, b, c, d, e, f] 1 = some b := rfl
theorem at62 {a b c d e f : D} : L2.atI [a, b, c, d, e, f] 2 = some c := rfl
theorem at63 {a b c d e f : D} : L2.atI [a, b, c, d, e, f] 3 = some d := rfl
theorem at64 {a b c d e f : D} : L2.atI [a, b, c, d, e, f] 4 = some e := rfl
theorem at65 {a b c d e f : D} : L2.atI [a, b, c, d, e, f] 5 = some f := rfl
theorem sz6 : szOk 6 = true := by decide
theorem c_odd (k : Nat) {cells : List Int} {pos big tot : Int} (h : HOk cells pos big tot) : ∃ (d : D) (p b t : Int), (Mk (k + 5)).call "_law_number_or_odd" [.ow .par (HD cells pos big tot)] = .ret d false [.ow .par (HD cells p b t)] ∧ okD d ∧ (∀ a, d = .int a → a.natAbs < 10 ^ 18) ∧ HOk cells p b t := by
  rw [call_eq (k := k + 4) (e := e__law_number_or_odd) rfl (mo__law_number_or_odd (k + 4)) rfl rfl]
  obtain ⟨i, p, b, t, e1, i0, i1, h1⟩ := c_take (k + 2) h (m := 5) (by decide) (by decide)
  by_cases hi : i = 0
  · subst hi
    obtain ⟨j, p2, b2, t2, e2, j0, j1, h2⟩ := c_take (k + 2) h1 (m := 6) (by decide) (by decide)
    have hj : j = 0 ∨ j = 1 ∨ j = 2 ∨ j = 3 ∨ j = 4 ∨ j = 5 := by omega
    rcases hj with rfl | rfl | rfl | rfl | rfl | rfl
    · exact ⟨.bl true, p2, b2, t2, by simp [m__law_number_or_odd, e__law_number_or_odd, sCons, sSet, sRet, sNil, sIf, sSub, VE.tAnd, VE.tOr, VE.tNot, tCm, tE, xCmp, xIx, xBin, xBi, xOwn, xIte, xNeg, xTup, xLst, xCons, xNil, xACons, xANil, xVar, xC, Rs.bind, Rs.toF, Rs.of, Rf.of, deref, getSl, putI, VE.stI, mayStore, binD, binI, endF, outS, ixD, at40, at41, at42, at43, bi_len, bi_int, bi_abs, cm_eq, cm_lt, cm_gt, lend, lend1, atsOf, giveBack, findArg, comb, whole, truD, xAnd, xOr, xNot, xCmp2, xIsi, tyD, isi_NoneType_int, isi_NoneType_bool, isi_NoneType_tuple, isi_bool_int, isi_bool_bool, isi_bool_tuple, isi_int_int, isi_int_bool, isi_int_tuple, isi_str_int, isi_str_bool, isi_str_tuple, isi_tuple_int, isi_tuple_bool, isi_tuple_tuple, isi_list_int, isi_list_bool, isi_list_tuple, cm_le, cm_ge, cn1, cn2, cn3, cn4, bi_lenT, cm_ne, at20, at21, at10, e1, e2, sz6, sz2, at60, at61, at62, at63, at64, at65], trivial, fun a z => (by cases z), h2⟩
    · exact ⟨.bl false, p2, b2, t2, by simp [m__law_number_or_odd, e__law_number_or_odd, sCons, sSet, sRet, sNil, sIf, sSub, VE.tAnd, VE.tOr, VE.tNot, tCm, tE, xCmp, xIx, xBin, xBi, xOwn, xIte, xNeg, xTup, xLst, xCons, xNil, xACons, xANil, xVar, xC, Rs.bind, Rs.toF, Rs.of, Rf.of, deref, getSl, putI, VE.stI, mayStore, binD, binI, endF, outS, ixD, at40, at41, at42, at43, bi_len, bi_int, bi_abs, cm_eq, cm_lt, cm_gt, lend, lend1, atsOf, giveBack, findArg, comb, whole, truD, xAnd, xOr, xNot, xCmp2, xIsi, tyD, isi_NoneType_int, isi_NoneType_bool, isi_NoneType_tuple, isi_bool_int, isi_bool_bool, isi_bool_tuple, isi_int_int, isi_int_bool, isi_int_tuple, isi_str_int, isi_str_bool, isi_str_tuple, isi_tuple_int, isi_tuple_bool, isi_tuple_tuple, isi_list_int, isi_list_bool, isi_list_tuple, cm_le, cm_ge, cn1, cn2, cn3, cn4, bi_lenT, cm_ne, at20, at21, at10, e1, e2, sz6, sz2, at60, at61, at62, at63, at64, at65], trivial, fun a z => (by cases z), h2⟩
    · exact ⟨.non, p2, b2, t2, by simp [m__law_number_or_odd, e__law_number_or_odd, sCons, sSet, sRet, sNil, sIf, sSub, VE.tAnd, VE.tOr, VE.tNot, tCm, tE, xCmp, xIx, xBin, xBi, xOwn, xIte, xNeg, xTup, xLst, xCons, xNil, xACons, xANil, xVar, xC, Rs.bind, Rs.toF, Rs.of, Rf.of, deref, getSl, putI, VE.stI, mayStore, binD, binI, endF, outS, ixD, at40, at41, at42, at43, bi_len, bi_int, bi_abs, cm_eq, cm_lt, cm_gt, lend, lend1, atsOf, giveBack, findArg, comb, whole, truD, xAnd, xOr, xNot, xCmp2, xIsi, tyD, isi_NoneType_int, isi_NoneType_bool, isi_NoneType_tuple, isi_bool_int, isi_bool_bool, isi_bool_tuple, isi_int_int, isi_int_bool, isi_int_tuple, isi_str_int, isi_str_bool, isi_str_tuple, isi_tuple_int, isi_tuple_bool, isi_tuple_tuple, isi_list_int, isi_list_bool, isi_list_tuple, cm_le, cm_ge, cn1, cn2, cn3, cn4, bi_lenT, cm_ne, at20, at21, at10, e1, e2, sz6, sz2, at60, at61, at62, at63, at64, at65], trivial, fun a z => (by cases z), h2⟩
    · exact ⟨.str (Str.ofString "3"), p2, b2, t2, by simp [m__law_number_or_odd, e__law_number_or_odd, sCons, sSet, sRet, sNil, sIf, sSub, VE.tAnd, VE.tOr, VE.tNot, tCm, tE, xCmp, xIx, xBin, xBi, xOwn, xIte, xNeg, xTup, xLst, xCons, xNil, xACons, xANil, xVar, xC, Rs.bind, Rs.toF, Rs.of, Rf.of, deref, getSl, putI, VE.stI, mayStore, binD, binI, endF, outS, ixD, at40, at41, at42, at43, bi_len, bi_int, bi_abs, cm_eq, cm_lt, cm_gt, lend, lend1, atsOf, giveBack, findArg, comb, whole, truD, xAnd, xOr, xNot, xCmp2, xIsi, tyD, isi_NoneType_int, isi_NoneType_bool, isi_NoneType_tuple, isi_bool_int, isi_bool_bool, isi_bool_tuple, isi_int_int, isi_int_bool, isi_int_tuple, isi_str_int, isi_str_bool, isi_str_tuple, isi_tuple_int, isi_tuple_bool, isi_tuple_tuple, isi_list_int, isi_list_bool, isi_list_tuple, cm_le, cm_ge, cn1, cn2, cn3, cn4, bi_lenT, cm_ne, at20, at21, at10, e1, e2, sz6, sz2, at60, at61, at62, at63, at64, at65], trivial, fun a z => (by cases z), h2⟩
    · refine ⟨.tup [.int 1, .int 2], p2, b2, t2, by simp [m__law_number_or_odd, e__law_number_or_odd, sCons, sSet, sRet, sNil, sIf, sSub, VE.tAnd, VE.tOr, VE.tNot, tCm, tE, xCmp, xIx, xBin, xBi, xOwn, xIte, xNeg, xTup, xLst, xCons, xNil, xACons, xANil, xVar, xC, Rs.bind, Rs.toF, Rs.of, Rf.of, deref, getSl, putI, VE.stI, mayStore, binD, binI, endF, outS, ixD, at40, at41, at42, at43, bi_len, bi_int, bi_abs, cm_eq, cm_lt, cm_gt, lend, lend1, atsOf, giveBack, findArg, comb, whole, truD, xAnd, xOr, xNot, xCmp2, xIsi, tyD, isi_NoneType_int, isi_NoneType_bool, isi_NoneType_tuple, isi_bool_int, isi_bool_bool, isi_bool_tuple, isi_int_int, isi_int_bool, isi_int_tuple, isi_str_int, isi_str_bool, isi_str_tuple, isi_tuple_int, isi_tuple_bool, isi_tuple_tuple, isi_list_int, isi_list_bool, isi_list_tuple, cm_le, cm_ge, cn1, cn2, cn3, cn4, bi_lenT, cm_ne, at20, at21, at10, e1, e2, sz6, sz2, at60, at61, at62, at63, at64, at65], fun x hx => ?_, fun a z => (by cases z), h2⟩
      simp at hx
      rcases hx with rfl | rfl
      · exact ⟨rfl, fun a e => by cases e; exact Nat.lt_of_lt_of_le (m := 2 ^ 2) (by decide) (Nat.pow_le_pow_right (by decide) (by decide))⟩
      · exact ⟨rfl, fun a e => by cases e; exact Nat.lt_of_lt_of_le (m := 2 ^ 2) (by decide) (Nat.pow_le_pow_right (by decide) (by decide))⟩
    · exact ⟨.str (Str.ofString ""), p2, b2, t2, by simp [m__law_number_or_odd, e__law_number_or_odd, sCons, sSet, sRet, sNil, sIf, sSub, VE.tAnd, VE.tOr, VE.tNot, tCm, tE, xCmp, xIx, xBin, xBi, xOwn, xIte, xNeg, xTup, xLst, xCons, xNil, xACons, xANil, xVar, xC, Rs.bind, Rs.toF, Rs.of, Rf.of, deref, getSl, putI, VE.stI, mayStore, binD, binI, endF, outS, ixD, at40, at41, at42, at43, bi_len, bi_int, bi_abs, cm_eq, cm_lt, cm_gt, lend, lend1, atsOf, giveBack, findArg, comb, whole, truD, xAnd, xOr, xNot, xCmp2, xIsi, tyD, isi_NoneType_int, isi_NoneType_bool, isi_NoneType_tuple, isi_bool_int, isi_bool_bool, isi_bool_tuple, isi_int_int, isi_int_bool, isi_int_tuple, isi_str_int, isi_str_bool, isi_str_tuple, isi_tuple_int, isi_tuple_bool, isi_tuple_tuple, isi_list_int, isi_list_bool, isi_list_tuple, cm_le, cm_ge, cn1, cn2, cn3, cn4, bi_lenT, cm_ne, at20, at21, at10, e1, e2, sz6, sz2, at60, at61, at62, at63, at64, at65], trivial, fun a z => (by cases z), h2⟩
  · obtain ⟨r, p2, b2, t2, e2, r0, h2⟩ := c_signed k h1
    exact ⟨.int r, p2, b2, t2, by simp [m__law_number_or_odd, e__law_number_or_odd, sCons, sSet, sRet, sNil, sIf, sSub, VE.tAnd, VE.tOr, VE.tNot, tCm, tE, xCmp, xIx, xBin, xBi, xOwn, xIte, xNeg, xTup, xLst, xCons, xNil, xACons, xANil, xVar, xC, Rs.bind, Rs.toF, Rs.of, Rf.of, deref, getSl, putI, VE.stI, mayStore, binD, binI, endF, outS, ixD, at40, at41, at42, at43, bi_len, bi_int, bi_abs, cm_eq, cm_lt, cm_gt, lend, lend1, atsOf, giveBack, findArg, comb, whole, truD, xAnd, xOr, xNot, xCmp2, xIsi, tyD, isi_NoneType_int, isi_NoneType_bool, isi_NoneType_tuple, isi_bool_int, isi_bool_bool, isi_bool_tuple, isi_int_int, isi_int_bool, isi_int_tuple, isi_str_int, isi_str_bool, isi_str_tuple, isi_tuple_int, isi_tuple_bool, isi_tuple_tuple, isi_list_int, isi_list_bool, isi_list_tuple, cm_le, cm_ge, cn1, cn2, cn3, cn4, bi_lenT, cm_ne, at20, at21, at10, e1, e2, hi], trivial, fun a z => by cases z; exact r0, h2⟩
end LawP
end

section
set_option Elab.async false
set_option linter.all false
set_option maxRecDepth 100000
set_option maxHeartbeats 4000000
namespace LawP
open PySem PySem.Spec L2 VE
theorem same_q (k : Nat) {n : Nat} {p : Int × Int} (h : Qo n p) (hl : n ≤ 1900) : (Mk (k + 3)).call "_law_same_ratio" [.fz (RD p), .fz (RD p)] = .ret (.bl true) false [.fz (RD p), .fz (RD p)] := by
  rw [c_same k (h.a.mono hl) (h.b.mono hl), isR_q h]
  simp
theorem cm_zero : cmpD .Eq (.str (Str.ofString "zero")) (.str (Str.ofString "zero")) = some true := by decide +kernel
theorem c_pair (k : Nat) {n : Nat} {p q : Int × Int} (hp : Qo n p) (hq : Qo n q) (hn : 0 < n) (hl : n ≤ 900) : (Mk (k + 5)).call "_law_pair_right" [.fz (RD p), .fz (RD q)] = .ret (.bl true) false [.fz (RD p), .fz (RD q)] := by
  rw [call_eq (k := k + 4) (e := e__law_pair_right) rfl (mo__law_pair_right (k + 4)) rfl rfl]
  have m1 := hp.a.ok hq.b hn hn (by omega)
  have m2 := hq.a.ok hp.b hn hn (by omega)
  have m3 := hp.b.ok hq.b hn hn (by omega)
  have m4 := hp.b.ok hq.a hn hn (by omega)
  have z3 : p.2 * q.2 ≠ 0 := Int.ne_of_gt (Int.mul_pos hp.ps hq.ps)
  have b1 := ((hp.a.mul hq.b).add (hq.a.mul hp.b)).mono (m := 1900) (by omega)
  have b2 := ((hp.a.mul hq.b).sub (hq.a.mul hp.b)).mono (m := 1900) (by omega)
  have b3 := (hp.b.mul hq.b).mono (m := 1900) (by omega)
  have b4 := (hp.a.mul hq.a).mono (m := 1900) (by omega)
  have b5 := (hp.a.mul hq.b).mono (m := 1900) (by omega)
  have b6 := (hp.b.mul hq.a).mono (m := 1900) (by omega)
  have e1 := c_plus (k + 2) hp hq hn hl
  have e2 := c_lplus (k + 1) hp hq hn hl
  have e3 := c_times (k + 2) hp hq hn hl
  have e4 := c_ltimes (k + 1) hp hq hn hl
  have e5 := c_minus (k + 2) hp hq hn hl
  have e6 := c_ratio (k + 2) _ _ b2 b3 z3
  have e7 := c_compare (k + 3) hp hq hn hl
  have e8 := c_lover k hp hq hn hl
  have s1 := same_q (k + 1) (rat_ok z3 b1 b3) (Nat.le_refl _)
  have s2 := same_q (k + 1) (rat_ok z3 b4 b3) (Nat.le_refl _)
  have s3 := same_q (k + 1) (rat_ok z3 b2 b3) (Nat.le_refl _)
  have e9 : ∀ x, (Mk (k + 4)).call "_law_int" [.fz (.int x)] = .ret (.bl true) false [.fz (.int x)] := fun x => c_int (k + 3) (d := .int x) rfl
  by_cases h0 : q.1 = 0
  · have t0 := eq_true h0
    have eo : ovr p q = .str (Str.ofString "zero") := if_pos h0
    rw [eo] at e8
    simp only [RD] at e1 e2 e3 e4 e5 e6 e7 e8 s1 s2 s3 ⊢
    by_cases h1 : p.1 * q.2 = q.1 * p.2
    · rw [if_pos h1] at e7
      have t1 := eq_true h1
      simp [m__law_pair_right, e__law_pair_right, sCons, sSet, sRet, sNil, sIf, sSub, VE.tAnd, VE.tOr, VE.tNot, tCm, tE, xCmp, xIx, xBin, xBi, xOwn, xIte, xNeg, xTup, xLst, xCons, xNil, xACons, xANil, xVar, xC, Rs.bind, Rs.toF, Rs.of, Rf.of, deref, getSl, putI, VE.stI, mayStore, binD, binI, endF, outS, ixD, at40, at41, at42, at43, bi_len, bi_int, bi_abs, cm_eq, cm_lt, cm_gt, lend, lend1, atsOf, giveBack, findArg, comb, whole, truD, xAnd, xOr, xNot, xCmp2, xIsi, tyD, isi_NoneType_int, isi_NoneType_bool, isi_NoneType_tuple, isi_bool_int, isi_bool_bool, isi_bool_tuple, isi_int_int, isi_int_bool, isi_int_tuple, isi_str_int, isi_str_bool, isi_str_tuple, isi_tuple_int, isi_tuple_bool, isi_tuple_tuple, isi_list_int, isi_list_bool, isi_list_tuple, cm_le, cm_ge, cn1, cn2, cn3, cn4, bi_lenT, cm_ne, at20, at21, at10, m1, m2, m3, m4, t0, e1, e2, e3, e4, e5, e6, e7, e8, e9, cm_zero, s1, s2, s3, t1]
    · rw [if_neg h1] at e7
      have t1 := eq_false h1
      by_cases h2 : q.1 * p.2 < p.1 * q.2
      · rw [if_pos h2] at e7
        have t2 := eq_true h2
        simp [m__law_pair_right, e__law_pair_right, sCons, sSet, sRet, sNil, sIf, sSub, VE.tAnd, VE.tOr, VE.tNot, tCm, tE, xCmp, xIx, xBin, xBi, xOwn, xIte, xNeg, xTup, xLst, xCons, xNil, xACons, xANil, xVar, xC, Rs.bind, Rs.toF, Rs.of, Rf.of, deref, getSl, putI, VE.stI, mayStore, binD, binI, endF, outS, ixD, at40, at41, at42, at43, bi_len, bi_int, bi_abs, cm_eq, cm_lt, cm_gt, lend, lend1, atsOf, giveBack, findArg, comb, whole, truD, xAnd, xOr, xNot, xCmp2, xIsi, tyD, isi_NoneType_int, isi_NoneType_bool, isi_NoneType_tuple, isi_bool_int, isi_bool_bool, isi_bool_tuple, isi_int_int, isi_int_bool, isi_int_tuple, isi_str_int, isi_str_bool, isi_str_tuple, isi_tuple_int, isi_tuple_bool, isi_tuple_tuple, isi_list_int, isi_list_bool, isi_list_tuple, cm_le, cm_ge, cn1, cn2, cn3, cn4, bi_lenT, cm_ne, at20, at21, at10, m1, m2, m3, m4, t0, e1, e2, e3, e4, e5, e6, e7, e8, e9, cm_zero, s1, s2, s3, t1, t2]
      · rw [if_neg h2] at e7
        have t2 := eq_false h2
        simp [m__law_pair_right, e__law_pair_right, sCons, sSet, sRet, sNil, sIf, sSub, VE.tAnd, VE.tOr, VE.tNot, tCm, tE, xCmp, xIx, xBin, xBi, xOwn, xIte, xNeg, xTup, xLst, xCons, xNil, xACons, xANil, xVar, xC, Rs.bind, Rs.toF, Rs.of, Rf.of, deref, getSl, putI, VE.stI, mayStore, binD, binI, endF, outS, ixD, at40, at41, at42, at43, bi_len, bi_int, bi_abs, cm_eq, cm_lt, cm_gt, lend, lend1, atsOf, giveBack, findArg, comb, whole, truD, xAnd, xOr, xNot, xCmp2, xIsi, tyD, isi_NoneType_int, isi_NoneType_bool, isi_NoneType_tuple, isi_bool_int, isi_bool_bool, isi_bool_tuple, isi_int_int, isi_int_bool, isi_int_tuple, isi_str_int, isi_str_bool, isi_str_tuple, isi_tuple_int, isi_tuple_bool, isi_tuple_tuple, isi_list_int, isi_list_bool, isi_list_tuple, cm_le, cm_ge, cn1, cn2, cn3, cn4, bi_lenT, cm_ne, at20, at21, at10, m1, m2, m3, m4, t0, e1, e2, e3, e4, e5, e6, e7, e8, e9, cm_zero, s1, s2, s3, t1, t2]
  · have t0 := eq_false h0
    have eo : ovr p q = RD (rat (p.1 * q.2) (p.2 * q.1)) := if_neg h0
    rw [eo] at e8
    have z6 : p.2 * q.1 ≠ 0 := Int.mul_ne_zero (Int.ne_of_gt hp.ps) h0
    have e10 := c_ratio (k + 2) _ _ b5 b6 z6
    have s4 := same_q (k + 1) (rat_ok z6 b5 b6) (Nat.le_refl _)
    simp only [RD] at e1 e2 e3 e4 e5 e6 e7 e8 e10 s1 s2 s3 s4 ⊢
    by_cases h1 : p.1 * q.2 = q.1 * p.2
    · rw [if_pos h1] at e7
      have t1 := eq_true h1
      simp [m__law_pair_right, e__law_pair_right, sCons, sSet, sRet, sNil, sIf, sSub, VE.tAnd, VE.tOr, VE.tNot, tCm, tE, xCmp, xIx, xBin, xBi, xOwn, xIte, xNeg, xTup, xLst, xCons, xNil, xACons, xANil, xVar, xC, Rs.bind, Rs.toF, Rs.of, Rf.of, deref, getSl, putI, VE.stI, mayStore, binD, binI, endF, outS, ixD, at40, at41, at42, at43, bi_len, bi_int, bi_abs, cm_eq, cm_lt, cm_gt, lend, lend1, atsOf, giveBack, findArg, comb, whole, truD, xAnd, xOr, xNot, xCmp2, xIsi, tyD, isi_NoneType_int, isi_NoneType_bool, isi_NoneType_tuple, isi_bool_int, isi_bool_bool, isi_bool_tuple, isi_int_int, isi_int_bool, isi_int_tuple, isi_str_int, isi_str_bool, isi_str_tuple, isi_tuple_int, isi_tuple_bool, isi_tuple_tuple, isi_list_int, isi_list_bool, isi_list_tuple, cm_le, cm_ge, cn1, cn2, cn3, cn4, bi_lenT, cm_ne, at20, at21, at10, m1, m2, m3, m4, t0, e1, e2, e3, e4, e5, e6, e7, e8, e9, e10, s4, s1, s2, s3, t1]
    · rw [if_neg h1] at e7
      have t1 := eq_false h1
      by_cases h2 : q.1 * p.2 < p.1 * q.2
      · rw [if_pos h2] at e7
        have t2 := eq_true h2
        simp [m__law_pair_right, e__law_pair_right, sCons, sSet, sRet, sNil, sIf, sSub, VE.tAnd, VE.tOr, VE.tNot, tCm, tE, xCmp, xIx, xBin, xBi, xOwn, xIte, xNeg, xTup, xLst, xCons, xNil, xACons, xANil, xVar, xC, Rs.bind, Rs.toF, Rs.of, Rf.of, deref, getSl, putI, VE.stI, mayStore, binD, binI, endF, outS, ixD, at40, at41, at42, at43, bi_len, bi_int, bi_abs, cm_eq, cm_lt, cm_gt, lend, lend1, atsOf, giveBack, findArg, comb, whole, truD, xAnd, xOr, xNot, xCmp2, xIsi, tyD, isi_NoneType_int, isi_NoneType_bool, isi_NoneType_tuple, isi_bool_int, isi_bool_bool, isi_bool_tuple, isi_int_int, isi_int_bool, isi_int_tuple, isi_str_int, isi_str_bool, isi_str_tuple, isi_tuple_int, isi_tuple_bool, isi_tuple_tuple, isi_list_int, isi_list_bool, isi_list_tuple, cm_le, cm_ge, cn1, cn2, cn3, cn4, bi_lenT, cm_ne, at20, at21, at10, m1, m2, m3, m4, t0, e1, e2, e3, e4, e5, e6, e7, e8, e9, e10, s4, s1, s2, s3, t1, t2]
      · rw [if_neg h2] at e7
        have t2 := eq_false h2
        simp [m__law_pair_right, e__law_pair_right, sCons, sSet, sRet, sNil, sIf, sSub, VE.tAnd, VE.tOr, VE.tNot, tCm, tE, xCmp, xIx, xBin, xBi, xOwn, xIte, xNeg, xTup, xLst, xCons, xNil, xACons, xANil, xVar, xC, Rs.bind, Rs.toF, Rs.of, Rf.of, deref, getSl, putI, VE.stI, mayStore, binD, binI, endF, outS, ixD, at40, at41, at42, at43, bi_len, bi_int, bi_abs, cm_eq, cm_lt, cm_gt, lend, lend1, atsOf, giveBack, findArg, comb, whole, truD, xAnd, xOr, xNot, xCmp2, xIsi, tyD, isi_NoneType_int, isi_NoneType_bool, isi_NoneType_tuple, isi_bool_int, isi_bool_bool, isi_bool_tuple, isi_int_int, isi_int_bool, isi_int_tuple, isi_str_int, isi_str_bool, isi_str_tuple, isi_tuple_int, isi_tuple_bool, isi_tuple_tuple, isi_list_int, isi_list_bool, isi_list_tuple, cm_le, cm_ge, cn1, cn2, cn3, cn4, bi_lenT, cm_ne, at20, at21, at10, m1, m2, m3, m4, t0, e1, e2, e3, e4, e5, e6, e7, e8, e9, e10, s4, s1, s2, s3, t1, t2]
end LawP
end

section
set_option Elab.async false
set_option linter.all false
set_option maxRecDepth 100000
set_option maxHeartbeats 4000000
namespace LawP
open PySem PySem.Spec L2 VE
def things (n : Int) : List D := [.tup [.int (2 * n), .int 4], .tup [.int n, .int 0], .tup [.int n, .int (-1)], .tup [.bl true, .int 1], .tup [.int 1, .bl true], .lst [.int 1, .int 2], .tup [.int 1, .int 2, .int 3], .tup [.int 0, .int n], .int n, .non, .str (Str.ofString "1/2"), .tup [.int n, .int (n + 1)], .tup [.int (-n), .int 1], .tup []]
theorem sz0 : szOk 0 = true := by decide
theorem sz14 : szOk 14 = true := by decide
theorem c_things (k : Nat) {cells : List Int} {pos big tot : Int} (h : HOk cells pos big tot) : ∃ (n p b t : Int), (Mk (k + 4)).call "_law_things" [.ow .par (HD cells pos big tot)] = .ret (.lst (things n)) true [.ow .par (HD cells p b t)] ∧ 0 < n ∧ n ≤ 10 ^ 18 ∧ HOk cells p b t := by
  rw [call_eq (k := k + 3) (e := e__law_things) rfl (mo__law_things (k + 3)) rfl rfl]
  obtain ⟨r, p, b, t, e1, r0, r1, h1⟩ := c_big k h
  have m1 : mulOk 2 (1 + r) = true := mulOk_of 10 100 (by decide) (by omega) (by decide) (by decide) (by decide)
  refine ⟨1 + r, p, b, t, ?_, by omega, by omega, h1⟩
  simp [m__law_things, e__law_things, sCons, sSet, sRet, sNil, sIf, sSub, VE.tAnd, VE.tOr, VE.tNot, tCm, tE, xCmp, xIx, xBin, xBi, xOwn, xIte, xNeg, xTup, xLst, xCons, xNil, xACons, xANil, xVar, xC, Rs.bind, Rs.toF, Rs.of, Rf.of, deref, getSl, putI, VE.stI, mayStore, binD, binI, endF, outS, ixD, at40, at41, at42, at43, bi_len, bi_int, bi_abs, cm_eq, cm_lt, cm_gt, lend, lend1, atsOf, giveBack, findArg, comb, whole, truD, xAnd, xOr, xNot, xCmp2, xIsi, tyD, isi_NoneType_int, isi_NoneType_bool, isi_NoneType_tuple, isi_bool_int, isi_bool_bool, isi_bool_tuple, isi_int_int, isi_int_bool, isi_int_tuple, isi_str_int, isi_str_bool, isi_str_tuple, isi_tuple_int, isi_tuple_bool, isi_tuple_tuple, isi_list_int, isi_list_bool, isi_list_tuple, cm_le, cm_ge, cn1, cn2, cn3, cn4, bi_lenT, cm_ne, at20, at21, at10, e1, m1, sz0, sz2, sz3, sz14, things]
theorem c_whole (k : Nat) {d : D} {l h : Int} (hk : kd d = true) : (Mk (k + 1)).call "_law_whole" [.fz d, .fz (.int l), .fz (.int h)] = .ret (.bl (wh d (.int l) (.int h))) false [.fz d, .fz (.int l), .fz (.int h)] := by
  rw [call_eq (e := e__law_whole) rfl (mo__law_whole k) rfl rfl]
  cases d with
  | int x =>
    by_cases h1 : l ≤ x
    · simp [m__law_whole, e__law_whole, sCons, sSet, sRet, sNil, sIf, sSub, VE.tAnd, VE.tOr, VE.tNot, tCm, tE, xCmp, xIx, xBin, xBi, xOwn, xIte, xNeg, xTup, xLst, xCons, xNil, xACons, xANil, xVar, xC, Rs.bind, Rs.toF, Rs.of, Rf.of, deref, getSl, putI, VE.stI, mayStore, binD, binI, endF, outS, ixD, at40, at41, at42, at43, bi_len, bi_int, bi_abs, cm_eq, cm_lt, cm_gt, lend, lend1, atsOf, giveBack, findArg, comb, whole, truD, xAnd, xOr, xNot, xCmp2, xIsi, tyD, isi_NoneType_int, isi_NoneType_bool, isi_NoneType_tuple, isi_bool_int, isi_bool_bool, isi_bool_tuple, isi_int_int, isi_int_bool, isi_int_tuple, isi_str_int, isi_str_bool, isi_str_tuple, isi_tuple_int, isi_tuple_bool, isi_tuple_tuple, isi_list_int, isi_list_bool, isi_list_tuple, cm_le, cm_ge, cn1, cn2, cn3, cn4, bi_lenT, cm_ne, at20, at21, at10, wh, h1]
    · simp [m__law_whole, e__law_whole, sCons, sSet, sRet, sNil, sIf, sSub, VE.tAnd, VE.tOr, VE.tNot, tCm, tE, xCmp, xIx, xBin, xBi, xOwn, xIte, xNeg, xTup, xLst, xCons, xNil, xACons, xANil, xVar, xC, Rs.bind, Rs.toF, Rs.of, Rf.of, deref, getSl, putI, VE.stI, mayStore, binD, binI, endF, outS, ixD, at40, at41, at42, at43, bi_len, bi_int, bi_abs, cm_eq, cm_lt, cm_gt, lend, lend1, atsOf, giveBack, findArg, comb, whole, truD, xAnd, xOr, xNot, xCmp2, xIsi, tyD, isi_NoneType_int, isi_NoneType_bool, isi_NoneType_tuple, isi_bool_int, isi_bool_bool, isi_bool_tuple, isi_int_int, isi_int_bool, isi_int_tuple, isi_str_int, isi_str_bool, isi_str_tuple, isi_tuple_int, isi_tuple_bool, isi_tuple_tuple, isi_list_int, isi_list_bool, isi_list_tuple, cm_le, cm_ge, cn1, cn2, cn3, cn4, bi_lenT, cm_ne, at20, at21, at10, wh, h1]
  | scr _ => cases hk
  | obj _ _ => cases hk
  | _ => simp [m__law_whole, e__law_whole, sCons, sSet, sRet, sNil, sIf, sSub, VE.tAnd, VE.tOr, VE.tNot, tCm, tE, xCmp, xIx, xBin, xBi, xOwn, xIte, xNeg, xTup, xLst, xCons, xNil, xACons, xANil, xVar, xC, Rs.bind, Rs.toF, Rs.of, Rf.of, deref, getSl, putI, VE.stI, mayStore, binD, binI, endF, outS, ixD, at40, at41, at42, at43, bi_len, bi_int, bi_abs, cm_eq, cm_lt, cm_gt, lend, lend1, atsOf, giveBack, findArg, comb, whole, truD, xAnd, xOr, xNot, xCmp2, xIsi, tyD, isi_NoneType_int, isi_NoneType_bool, isi_NoneType_tuple, isi_bool_int, isi_bool_bool, isi_bool_tuple, isi_int_int, isi_int_bool, isi_int_tuple, isi_str_int, isi_str_bool, isi_str_tuple, isi_tuple_int, isi_tuple_bool, isi_tuple_tuple, isi_list_int, isi_list_bool, isi_list_tuple, cm_le, cm_ge, cn1, cn2, cn3, cn4, bi_lenT, cm_ne, at20, at21, at10, wh]
end LawP
end

section
set_option Elab.async false
set_option linter.all false
set_option maxRecDepth 100000
set_option maxHeartbeats 4000000
namespace LawP
open PySem PySem.Spec L2 VE
abbrev tx (i : Int) : Str := Str.ofString (toString i)
def rtxt (p : Int × Int) : Str := if p.2 = 1 then tx p.1 else tx p.1 ++ Str.ofString "/" ++ tx p.2
theorem bt_log {i : Int} (h : Bt 1900 i) : i.natAbs.log2 < 1920 := Nat.lt_of_lt_of_le (log2_lt h (by decide)) (by decide)
theorem bi_str {i : Int} (h : Bt 1900 i) : biD (Str.ofString "str") [.int i] = some (.str (tx i), false) := by
  show (if decide (i.natAbs.log2 < 1920) then some (D.str (tx i), false) else none) = _
  rw [if_pos (decide_eq_true (bt_log h))]
theorem ts_int {i : Int} (h : Bt 1900 i) : toStrD (.int i) = some (tx i) := by
  have q := decide_eq_true (bt_log h)
  unfold toStrD
  simp only [q, if_true]
theorem tx_len {i : Int} (h : Bt 1900 i) : (tx i).length ≤ 1921 := by
  open PyProof.Rows PySem PySem.W in exact int_text_len_1921 (bt_log h)
theorem c_text (k : Nat) {p : Int × Int} (h1 : Bt 1900 p.1) (h2 : Bt 1900 p.2) : (Mk (k + 1)).call "ratio_text" [.fz (RD p)] = .ret (.str (rtxt p)) false [.fz (RD p)] := by
  rw [call_eq (e := e_ratio_text) rfl (mo_ratio_text k) rfl rfl]
  have s1 : szOk (tx p.1).length = true := by
    have := tx_len h1
    apply decide_eq_true
    rw [sizeLine_eq]; omega
  have s2 : szOk (tx p.1 ++ Str.ofString "/").length = true := by
    have := tx_len h1
    have e : (Str.ofString "/").length = 1 := by decide +kernel
    apply decide_eq_true
    rw [Str.length_append, e, sizeLine_eq]; omega
  have s3 : szOk (tx p.1 ++ Str.ofString "/" ++ tx p.2).length = true := by
    have := tx_len h1
    have := tx_len h2
    have e : (Str.ofString "/").length = 1 := by decide +kernel
    apply decide_eq_true
    rw [Str.length_append, Str.length_append, e, sizeLine_eq]; omega
  have b1 := bi_str h1
  have t1 := ts_int h1
  have t2 := ts_int h2
  simp only [RD]
  by_cases h : p.2 = 1
  · have er : rtxt p = tx p.1 := if_pos h
    rw [er]
    simp [m_ratio_text, e_ratio_text, sCons, sSet, sRet, sNil, sIf, sSub, VE.tAnd, VE.tOr, VE.tNot, tCm, tE, xCmp, xIx, xBin, xBi, xOwn, xIte, xNeg, xTup, xLst, xCons, xNil, xACons, xANil, xVar, xC, Rs.bind, Rs.toF, Rs.of, Rf.of, deref, getSl, putI, VE.stI, mayStore, binD, binI, endF, outS, ixD, at40, at41, at42, at43, bi_len, bi_int, bi_abs, cm_eq, cm_lt, cm_gt, lend, lend1, atsOf, giveBack, findArg, comb, whole, truD, xAnd, xOr, xNot, xCmp2, xIsi, tyD, isi_NoneType_int, isi_NoneType_bool, isi_NoneType_tuple, isi_bool_int, isi_bool_bool, isi_bool_tuple, isi_int_int, isi_int_bool, isi_int_tuple, isi_str_int, isi_str_bool, isi_str_tuple, isi_tuple_int, isi_tuple_bool, isi_tuple_tuple, isi_list_int, isi_list_bool, isi_list_tuple, cm_le, cm_ge, cn1, cn2, cn3, cn4, bi_lenT, cm_ne, at20, at21, at10, h, b1]
  · have er : rtxt p = tx p.1 ++ Str.ofString "/" ++ tx p.2 := if_neg h
    rw [er]
    simp [m_ratio_text, e_ratio_text, sCons, sSet, sRet, sNil, sIf, sSub, VE.tAnd, VE.tOr, VE.tNot, tCm, tE, xCmp, xIx, xBin, xBi, xOwn, xIte, xNeg, xTup, xLst, xCons, xNil, xACons, xANil, xVar, xC, Rs.bind, Rs.toF, Rs.of, Rf.of, deref, getSl, putI, VE.stI, mayStore, binD, binI, endF, outS, ixD, at40, at41, at42, at43, bi_len, bi_int, bi_abs, cm_eq, cm_lt, cm_gt, lend, lend1, atsOf, giveBack, findArg, comb, whole, truD, xAnd, xOr, xNot, xCmp2, xIsi, tyD, isi_NoneType_int, isi_NoneType_bool, isi_NoneType_tuple, isi_bool_int, isi_bool_bool, isi_bool_tuple, isi_int_int, isi_int_bool, isi_int_tuple, isi_str_int, isi_str_bool, isi_str_tuple, isi_tuple_int, isi_tuple_bool, isi_tuple_tuple, isi_list_int, isi_list_bool, isi_list_tuple, cm_le, cm_ge, cn1, cn2, cn3, cn4, bi_lenT, cm_ne, at20, at21, at10, h, xJoin, xJ, xJ0, xFmt, t1, t2, Str.empty_append, s1, s2, s3]

end LawP
end

section
set_option Elab.async false
set_option linter.all false
set_option maxRecDepth 100000
set_option maxHeartbeats 4000000
namespace LawP
open PySem PySem.Spec L2 VE
/-- the sum of two ratios -/
def rsum (p q : Int × Int) : Int × Int := rat (p.1 * q.2 + q.1 * p.2) (p.2 * q.2)
theorem Qo.sum_bits {n m : Nat} {p q : Int × Int} (hp : Qo n p) (hq : Qo m q) : Bt (n + m + 1) (p.1 * q.2 + q.1 * p.2) ∧ Bt (n + m + 1) (p.2 * q.2) :=
  ⟨(hp.a.mul hq.b).add ((hq.a.mul hp.b).mono (by omega)), (hp.b.mul hq.b).mono (by omega)⟩
theorem Qo.rsum {n m : Nat} {p q : Int × Int} (hp : Qo n p) (hq : Qo m q) : Qo (n + m + 1) (rsum p q) :=
  rat_ok (Int.ne_of_gt (Int.mul_pos hp.ps hq.ps)) (hp.sum_bits hq).1 (hp.sum_bits hq).2
theorem Qo.mono {n m : Nat} {p : Int × Int} (h : Qo n p) (l : n ≤ m) : Qo m p := ⟨h.ps, h.g, h.a.mono l, h.b.mono l⟩
theorem c_lplus2 (k : Nat) {n m : Nat} {p q : Int × Int} (hp : Qo n p) (hq : Qo m q) (hn : 0 < n) (hm : 0 < m) (hl : n + m ≤ 1800) : (Mk (k + 3)).call "_law_plus" [.fz (RD p), .fz (RD q)] = .ret (RD (rsum p q)) false [.fz (RD p), .fz (RD q)] := by
  rw [call_eq (k := k + 2) (e := e__law_plus) rfl (mo__law_plus (k + 2)) rfl rfl]
  have m1 := hp.a.ok hq.b hn hm (by omega)
  have m2 := hq.a.ok hp.b hm hn (by omega)
  have m3 := hp.b.ok hq.b hn hm (by omega)
  have e := c_ratio k (p.1 * q.2 + q.1 * p.2) (p.2 * q.2) ((hp.sum_bits hq).1.mono (m := 1900) (by omega)) ((hp.sum_bits hq).2.mono (m := 1900) (by omega)) (Int.ne_of_gt (Int.mul_pos hp.ps hq.ps))
  simp only [RD] at e ⊢
  simp [m__law_plus, e__law_plus, sCons, sSet, sRet, sNil, sIf, sSub, VE.tAnd, VE.tOr, VE.tNot, tCm, tE, xCmp, xIx, xBin, xBi, xOwn, xIte, xNeg, xTup, xLst, xCons, xNil, xACons, xANil, xVar, xC, Rs.bind, Rs.toF, Rs.of, Rf.of, deref, getSl, putI, VE.stI, mayStore, binD, binI, endF, outS, ixD, at40, at41, at42, at43, bi_len, bi_int, bi_abs, cm_eq, cm_lt, cm_gt, lend, lend1, atsOf, giveBack, findArg, comb, whole, truD, xAnd, xOr, xNot, xCmp2, xIsi, tyD, isi_NoneType_int, isi_NoneType_bool, isi_NoneType_tuple, isi_bool_int, isi_bool_bool, isi_bool_tuple, isi_int_int, isi_int_bool, isi_int_tuple, isi_str_int, isi_str_bool, isi_str_tuple, isi_tuple_int, isi_tuple_bool, isi_tuple_tuple, isi_list_int, isi_list_bool, isi_list_tuple, cm_le, cm_ge, cn1, cn2, cn3, cn4, bi_lenT, cm_ne, at20, at21, at10, m1, m2, m3, e, rsum]
theorem c_plus2 (k : Nat) {n m : Nat} {p q : Int × Int} (hp : Qo n p) (hq : Qo m q) (hn : 0 < n) (hm : 0 < m) (hl : n + m ≤ 1800) : (Mk (k + 2)).call "plus" [.fz (RD p), .fz (RD q)] = .ret (RD (rsum p q)) false [.fz (RD p), .fz (RD q)] := by
  rw [call_eq (k := k + 1) (e := e_plus) rfl (mo_plus (k + 1)) rfl rfl]
  by_cases h1 : p.2 = 1 ∧ q.2 = 1
  · obtain ⟨h1, h2⟩ := h1
    unfold rsum
    rw [h1, h2, Int.mul_one, Int.mul_one, Int.mul_one, rat_one]
    simp [m_plus, e_plus, sCons, sSet, sRet, sNil, sIf, sSub, VE.tAnd, VE.tOr, VE.tNot, tCm, tE, xCmp, xIx, xBin, xBi, xOwn, xIte, xNeg, xTup, xLst, xCons, xNil, xACons, xANil, xVar, xC, Rs.bind, Rs.toF, Rs.of, Rf.of, deref, getSl, putI, VE.stI, mayStore, binD, binI, endF, outS, ixD, at40, at41, at42, at43, bi_len, bi_int, bi_abs, cm_eq, cm_lt, cm_gt, lend, lend1, atsOf, giveBack, findArg, comb, whole, truD, xAnd, xOr, xNot, xCmp2, xIsi, tyD, isi_NoneType_int, isi_NoneType_bool, isi_NoneType_tuple, isi_bool_int, isi_bool_bool, isi_bool_tuple, isi_int_int, isi_int_bool, isi_int_tuple, isi_str_int, isi_str_bool, isi_str_tuple, isi_tuple_int, isi_tuple_bool, isi_tuple_tuple, isi_list_int, isi_list_bool, isi_list_tuple, cm_le, cm_ge, cn1, cn2, cn3, cn4, bi_lenT, cm_ne, at20, at21, at10, RD, h1, h2, sz2]
  · have m1 := hp.a.ok hq.b hn hm (by omega)
    have m2 := hq.a.ok hp.b hm hn (by omega)
    have m3 := hp.b.ok hq.b hn hm (by omega)
    have e := c_lowest k (p.1 * q.2 + q.1 * p.2) (p.2 * q.2) ((hp.sum_bits hq).1.mono (m := 1900) (by omega)) ((hp.sum_bits hq).2.mono (m := 1900) (by omega)) (Int.mul_pos hp.ps hq.ps)
    by_cases h2 : p.2 = 1
    · have h3 : ¬ q.2 = 1 := fun z => h1 ⟨h2, z⟩
      simp only [RD, h2, Int.mul_one, Int.one_mul, rsum] at e m1 m2 m3 ⊢
      simp [m_plus, e_plus, sCons, sSet, sRet, sNil, sIf, sSub, VE.tAnd, VE.tOr, VE.tNot, tCm, tE, xCmp, xIx, xBin, xBi, xOwn, xIte, xNeg, xTup, xLst, xCons, xNil, xACons, xANil, xVar, xC, Rs.bind, Rs.toF, Rs.of, Rf.of, deref, getSl, putI, VE.stI, mayStore, binD, binI, endF, outS, ixD, at40, at41, at42, at43, bi_len, bi_int, bi_abs, cm_eq, cm_lt, cm_gt, lend, lend1, atsOf, giveBack, findArg, comb, whole, truD, xAnd, xOr, xNot, xCmp2, xIsi, tyD, isi_NoneType_int, isi_NoneType_bool, isi_NoneType_tuple, isi_bool_int, isi_bool_bool, isi_bool_tuple, isi_int_int, isi_int_bool, isi_int_tuple, isi_str_int, isi_str_bool, isi_str_tuple, isi_tuple_int, isi_tuple_bool, isi_tuple_tuple, isi_list_int, isi_list_bool, isi_list_tuple, cm_le, cm_ge, cn1, cn2, cn3, cn4, bi_lenT, cm_ne, at20, at21, at10, m1, m2, m3, h2, h3, e]
    · simp only [RD, rsum] at e ⊢
      simp [m_plus, e_plus, sCons, sSet, sRet, sNil, sIf, sSub, VE.tAnd, VE.tOr, VE.tNot, tCm, tE, xCmp, xIx, xBin, xBi, xOwn, xIte, xNeg, xTup, xLst, xCons, xNil, xACons, xANil, xVar, xC, Rs.bind, Rs.toF, Rs.of, Rf.of, deref, getSl, putI, VE.stI, mayStore, binD, binI, endF, outS, ixD, at40, at41, at42, at43, bi_len, bi_int, bi_abs, cm_eq, cm_lt, cm_gt, lend, lend1, atsOf, giveBack, findArg, comb, whole, truD, xAnd, xOr, xNot, xCmp2, xIsi, tyD, isi_NoneType_int, isi_NoneType_bool, isi_NoneType_tuple, isi_bool_int, isi_bool_bool, isi_bool_tuple, isi_int_int, isi_int_bool, isi_int_tuple, isi_str_int, isi_str_bool, isi_str_tuple, isi_tuple_int, isi_tuple_bool, isi_tuple_tuple, isi_list_int, isi_list_bool, isi_list_tuple, cm_le, cm_ge, cn1, cn2, cn3, cn4, bi_lenT, cm_ne, at20, at21, at10, m1, m2, m3, h2, e]
/-! ### sum_of -/
def sums : List (Int × Int) → Int × Int → Int × Int
  | [], t => t
  | q :: qs, t => sums qs (rsum t q)
def sumB (C : Str → List Sl → Cr) : XS := (sCons (sSet 1 (xOwn (C "plus") [] (xACons (xVar 1) (xACons (xVar 2) xANil)))) sNil)
theorem sum_loop (k : Nat) {s0 : Sl} : ∀ (qs : List (Int × Int)) (t : Int × Int) (n : Nat) (s : Sl), mayStore (some s) = true → 0 < n → Qo n t → (∀ q ∈ qs, Qo 60 q) → n + 61 * qs.length ≤ 1700 →
    ∃ s', loopF (agI 2) (sumB (Mk (k + 2)).call) (qs.map RD) [s0, .fz (RD t), s] = .next [s0, .fz (RD (sums qs t)), s'] ∧ Qo (n + 61 * qs.length) (sums qs t)
  | [], t, n, s, _, _, ht, _, _ => ⟨s, rfl, ht⟩
  | q :: qs, t, n, s, hs, hn, ht, hq, hl => by
    have hl' : n + 61 * (qs.length + 1) ≤ 1700 := hl
    have q1 := hq q List.mem_cons_self
    have e := c_plus2 k ht q1 hn (by decide) (by omega)
    obtain ⟨s', e2, ok⟩ := sum_loop k (s0 := s0) qs (rsum t q) (n + 60 + 1) (.fz (RD q)) rfl (by omega) (ht.rsum q1) (fun r hr => hq r (List.mem_cons_of_mem _ hr)) (by omega)
    refine ⟨s', ?_, ok.mono (by simp only [List.length_cons]; omega)⟩
    have em : mayStore ([s0, .fz (RD t), s] : Ro)[2]? = true := hs
    have ea : agI 2 (RD q) [s0, .fz (RD t), s] = some [s0, .fz (RD t), .fz (RD q)] := by
      unfold agI VE.stI
      rw [if_pos em]
      rfl
    have eb : sumB (Mk (k + 2)).call [s0, .fz (RD t), .fz (RD q)] = .next [s0, .fz (RD (rsum t q)), .fz (RD q)] := by
      cases s0 <;> simp [sumB, sCons, sSet, sRet, sNil, sIf, sSub, VE.tAnd, VE.tOr, VE.tNot, tCm, tE, xCmp, xIx, xBin, xBi, xOwn, xIte, xNeg, xTup, xLst, xCons, xNil, xACons, xANil, xVar, xC, Rs.bind, Rs.toF, Rs.of, Rf.of, deref, getSl, putI, VE.stI, mayStore, binD, binI, endF, outS, ixD, at40, at41, at42, at43, bi_len, bi_int, bi_abs, cm_eq, cm_lt, cm_gt, lend, lend1, atsOf, giveBack, findArg, comb, whole, truD, xAnd, xOr, xNot, xCmp2, xIsi, tyD, isi_NoneType_int, isi_NoneType_bool, isi_NoneType_tuple, isi_bool_int, isi_bool_bool, isi_bool_tuple, isi_int_int, isi_int_bool, isi_int_tuple, isi_str_int, isi_str_bool, isi_str_tuple, isi_tuple_int, isi_tuple_bool, isi_tuple_tuple, isi_list_int, isi_list_bool, isi_list_tuple, cm_le, cm_ge, cn1, cn2, cn3, cn4, bi_lenT, cm_ne, at20, at21, at10, e]
    show (match agI 2 (RD q) [s0, .fz (RD t), s] with
      | none => Rf.stuck
      | some ρ1 => (match sumB (Mk (k + 2)).call ρ1 with
        | .next ρ2 => loopF (agI 2) (sumB (Mk (k + 2)).call) (qs.map RD) ρ2
        | .cnt ρ2 => loopF (agI 2) (sumB (Mk (k + 2)).call) (qs.map RD) ρ2
        | .brk ρ2 => .next ρ2
        | r => r)) = _
    rw [ea]
    simp only [eb]
    exact e2
end LawP
end

section
set_option Elab.async false
set_option linter.all false
set_option maxRecDepth 100000
set_option maxHeartbeats 4000000
namespace LawP
open PySem PySem.Spec L2 VE
theorem qo_zero {n : Nat} (h : 1 ≤ n) : Qo n (0, 1) := ⟨by decide, by decide, Nat.lt_of_lt_of_le (m := 2 ^ 1) (by decide) (Nat.pow_le_pow_right (by decide) h), Nat.lt_of_lt_of_le (m := 2 ^ 1) (by decide) (Nat.pow_le_pow_right (by decide) h)⟩
theorem sum_m (C : Str → List Sl → Cr) : m_sum_of C = sCons (sSet 1 (xC (.tup [.int 0, .int 1]))) (sCons (sFor (iGen (xVar 0)) (agI 2) (sumB C)) (sCons (sRet (xVar 1)) sNil)) := rfl
theorem c_sum_own (k : Nat) (qs : List (Int × Int)) (hq : ∀ q ∈ qs, Qo 60 q) (hl : qs.length ≤ 20) : (Mk (k + 3)).call "sum_of" [.ow .par (.lst (qs.map RD))] = .ret (RD (sums qs (0, 1))) false [.ow .par (.lst (qs.map RD))] := by
  rw [call_eq (k := k + 2) (e := e_sum_of) rfl (mo_sum_of (k + 2)) rfl rfl, sum_m]
  obtain ⟨s', e, _⟩ := sum_loop k (s0 := .ow .lck (.lst (qs.map RD))) qs (0, 1) 1 .un rfl (by decide) (qo_zero (Nat.le_refl _)) hq (by omega)
  have e1 : sFor (iGen (xVar 0)) (agI 2) (sumB (Mk (k + 2)).call) [.ow .par (.lst (qs.map RD)), .fz (.tup [.int 0, .int 1]), .un] = .next [.ow .par (.lst (qs.map RD)), .fz (RD (sums qs (0, 1))), s'] := by
    show Rf.map (unlockAll [(0, .par)]) (loopF (agI 2) (sumB (Mk (k + 2)).call) (qs.map RD) [.ow .lck (.lst (qs.map RD)), .fz (RD (0, 1)), .un]) = _
    rw [e]
    rfl
  simp [sCons, sSet, sRet, sNil, sIf, sSub, VE.tAnd, VE.tOr, VE.tNot, tCm, tE, xCmp, xIx, xBin, xBi, xOwn, xIte, xNeg, xTup, xLst, xCons, xNil, xACons, xANil, xVar, xC, Rs.bind, Rs.toF, Rs.of, Rf.of, deref, getSl, putI, VE.stI, mayStore, binD, binI, endF, outS, ixD, at40, at41, at42, at43, bi_len, bi_int, bi_abs, cm_eq, cm_lt, cm_gt, lend, lend1, atsOf, giveBack, findArg, comb, whole, truD, xAnd, xOr, xNot, xCmp2, xIsi, tyD, isi_NoneType_int, isi_NoneType_bool, isi_NoneType_tuple, isi_bool_int, isi_bool_bool, isi_bool_tuple, isi_int_int, isi_int_bool, isi_int_tuple, isi_str_int, isi_str_bool, isi_str_tuple, isi_tuple_int, isi_tuple_bool, isi_tuple_tuple, isi_list_int, isi_list_bool, isi_list_tuple, cm_le, cm_ge, cn1, cn2, cn3, cn4, bi_lenT, cm_ne, at20, at21, at10, e_sum_of, e1]
theorem c_sum_tup (k : Nat) (qs : List (Int × Int)) (hq : ∀ q ∈ qs, Qo 60 q) (hl : qs.length ≤ 20) : (Mk (k + 3)).call "sum_of" [.fz (.tup (qs.map RD))] = .ret (RD (sums qs (0, 1))) false [.fz (.tup (qs.map RD))] := by
  rw [call_eq (k := k + 2) (e := e_sum_of) rfl (mo_sum_of (k + 2)) rfl rfl, sum_m]
  obtain ⟨s', e, _⟩ := sum_loop k (s0 := .fz (.tup (qs.map RD))) qs (0, 1) 1 .un rfl (by decide) (qo_zero (Nat.le_refl _)) hq (by omega)
  have e1 : sFor (iGen (xVar 0)) (agI 2) (sumB (Mk (k + 2)).call) [.fz (.tup (qs.map RD)), .fz (.tup [.int 0, .int 1]), .un] = .next [.fz (.tup (qs.map RD)), .fz (RD (sums qs (0, 1))), s'] := by
    show Rf.map (unlockAll []) (loopF (agI 2) (sumB (Mk (k + 2)).call) (qs.map RD) [.fz (.tup (qs.map RD)), .fz (RD (0, 1)), .un]) = _
    rw [e]
    rfl
  simp [sCons, sSet, sRet, sNil, sIf, sSub, VE.tAnd, VE.tOr, VE.tNot, tCm, tE, xCmp, xIx, xBin, xBi, xOwn, xIte, xNeg, xTup, xLst, xCons, xNil, xACons, xANil, xVar, xC, Rs.bind, Rs.toF, Rs.of, Rf.of, deref, getSl, putI, VE.stI, mayStore, binD, binI, endF, outS, ixD, at40, at41, at42, at43, bi_len, bi_int, bi_abs, cm_eq, cm_lt, cm_gt, lend, lend1, atsOf, giveBack, findArg, comb, whole, truD, xAnd, xOr, xNot, xCmp2, xIsi, tyD, isi_NoneType_int, isi_NoneType_bool, isi_NoneType_tuple, isi_bool_int, isi_bool_bool, isi_bool_tuple, isi_int_int, isi_int_bool, isi_int_tuple, isi_str_int, isi_str_bool, isi_str_tuple, isi_tuple_int, isi_tuple_bool, isi_tuple_tuple, isi_list_int, isi_list_bool, isi_list_tuple, cm_le, cm_ge, cn1, cn2, cn3, cn4, bi_lenT, cm_ne, at20, at21, at10, e_sum_of, e1]
theorem c_sum_nil (k : Nat) : (Mk (k + 3)).call "sum_of" [.fz (.lst [])] = .ret (RD (0, 1)) false [.fz (.lst [])] := by
  rw [call_eq (k := k + 2) (e := e_sum_of) rfl (mo_sum_of (k + 2)) rfl rfl, sum_m]
  have e1 : sFor (iGen (xVar 0)) (agI 2) (sumB (Mk (k + 2)).call) [.fz (.lst []), .fz (.tup [.int 0, .int 1]), .un] = .next [.fz (.lst []), .fz (RD (0, 1)), .un] := rfl
  simp [sCons, sSet, sRet, sNil, sIf, sSub, VE.tAnd, VE.tOr, VE.tNot, tCm, tE, xCmp, xIx, xBin, xBi, xOwn, xIte, xNeg, xTup, xLst, xCons, xNil, xACons, xANil, xVar, xC, Rs.bind, Rs.toF, Rs.of, Rf.of, deref, getSl, putI, VE.stI, mayStore, binD, binI, endF, outS, ixD, at40, at41, at42, at43, bi_len, bi_int, bi_abs, cm_eq, cm_lt, cm_gt, lend, lend1, atsOf, giveBack, findArg, comb, whole, truD, xAnd, xOr, xNot, xCmp2, xIsi, tyD, isi_NoneType_int, isi_NoneType_bool, isi_NoneType_tuple, isi_bool_int, isi_bool_bool, isi_bool_tuple, isi_int_int, isi_int_bool, isi_int_tuple, isi_str_int, isi_str_bool, isi_str_tuple, isi_tuple_int, isi_tuple_bool, isi_tuple_tuple, isi_list_int, isi_list_bool, isi_list_tuple, cm_le, cm_ge, cn1, cn2, cn3, cn4, bi_lenT, cm_ne, at20, at21, at10, e_sum_of, e1]
end LawP
end

section
set_option Elab.async false
set_option linter.all false
set_option maxRecDepth 100000
set_option maxHeartbeats 4000000
namespace LawP
open PySem PySem.Spec L2 VE
theorem comb_none (s : Sl) : comb s none = s := by cases s <;> rfl
theorem seq_next {a b : XS} {ρ ρ1 : Ro} (h : a ρ = .next ρ1) : sCons a b ρ = b ρ1 := by
  unfold sCons
  rw [h]
abbrev Ms (s : Sl) : Prop := mayStore (some s) = true
def turnB (C : Str → List Sl → Cr) : XS := (sCons (sSet 10 (xOwn (C "_law_number_or_odd") [] (xACons (xVar 1) xANil))) (sCons (sSet 11 (xOwn (C "_law_number_or_odd") [] (xACons (xVar 1) xANil))) (sCons (sIf (tCm (xCmp .Eq (xOwn (C "_law_take") [] (xACons (xVar 1) (xACons (xC (.int (6))) xANil))) (xC (.int (0))))) (sCons (sSet 11 (xC (.int (0)))) sNil) sNil) (sCons (sSet 12 (xOwn (C "_law_due") [] (xACons (xVar 10) (xACons (xVar 11) xANil)))) (sCons (sSet 13 (xOwn (C "_law_make") [] (xACons (xVar 10) (xACons (xVar 11) xANil)))) (sCons (sIf (tOr (tCm (xCmp .NotEq (xVar 13) (xVar 12))) (tAnd (tE (xIsi (xVar 12) ["tuple"])) (tNot (tE (xOwn (C "_law_is_ratio") [] (xACons (xVar 13) xANil)))))) (sCons (sRet (xC (.bl false))) sNil) sNil) sNil))))))
theorem nat_bt {x : D} (h : ∀ a, x = .int a → a.natAbs < 10 ^ 18) : ∀ a, x = .int a → Bt 1900 a := fun a e => Bt.mono (n := 60) (m := 1900) (Nat.lt_of_lt_of_le (h a e) (by decide)) (by decide)
theorem ms_un : mayStore (some .un) = true := rfl
theorem ms_fz {d : D} : mayStore (some (.fz d)) = true := rfl
theorem ms_ow {d : D} : mayStore (some (.ow .own d)) = true := rfl
theorem okD_rd {p : Int × Int} (h : Qo 1900 p) : okD (RD p) := by
  intro x hx
  simp at hx
  rcases hx with rfl | rfl
  · exact ⟨rfl, fun a e => by cases e; exact h.a⟩
  · exact ⟨rfl, fun a e => by cases e; exact h.b⟩
theorem cm_nb : cmpD .NotEq (.str (Str.ofString "bottom")) (.str (Str.ofString "bottom")) = some false := by decide +kernel
theorem cm_nt : cmpD .NotEq (.str (Str.ofString "top")) (.str (Str.ofString "top")) = some false := by decide +kernel
theorem cm_nrd {p : Int × Int} : cmpD .NotEq (RD p) (RD p) = some false := by
  have : cmpD .NotEq (RD p) (RD p) = some (!(decide (p.1 = p.1) && (decide (p.2 = p.2) && true))) := rfl
  rw [this]
  simp
theorem due_kind {x y : D} (hx : kd x = true) (hy : kd y = true) (bx : ∀ a, x = .int a → Bt 1900 a) (by_ : ∀ a, y = .int a → Bt 1900 a) : (∃ s, due x y = .str s ∧ cmpD .NotEq (.str s) (.str s) = some false) ∨ ∃ p, due x y = RD p ∧ Qo 1900 p := by
  cases x with
  | int a =>
    cases y with
    | int b =>
      by_cases h0 : b = 0
      · subst h0
        exact Or.inl ⟨_, rfl, cm_nb⟩
      · refine Or.inr ⟨rat a b, ?_, rat_ok h0 (bx a rfl) (by_ b rfl)⟩
        simp [due, bad, h0]
    | _ => exact Or.inl ⟨_, rfl, cm_nb⟩
  | _ => exact Or.inl ⟨_, rfl, cm_nt⟩
theorem turn_body (k : Nat) {cells : List Int} {pos big tot : Int} (h : HOk cells pos big tot) {s0 s2 s3 s4 s5 s6 s7 s8 s9 s10 s11 s12 s13 s14 : Sl} (m10 : Ms s10) (m11 : Ms s11) (m12 : Ms s12) (m13 : Ms s13) :
    ∃ p b t d10 d11 d12 d13, turnB (Mk (k + 5)).call [s0, .ow .own (HD cells pos big tot), s2, s3, s4, s5, s6, s7, s8, s9, s10, s11, s12, s13, s14] = .next [s0, .ow .own (HD cells p b t), s2, s3, s4, s5, s6, s7, s8, s9, .fz d10, .fz d11, .fz d12, .fz d13, s14] ∧ HOk cells p b t := by
  obtain ⟨x, p1, b1, t1, e1, ok1, n1, h1⟩ := c_odd k h
  obtain ⟨y, p2, b2, t2, e2, ok2, n2, h2⟩ := c_odd k h1
  obtain ⟨r, p3, b3, t3, e3, r0, r1, h3⟩ := c_take (k + 3) h2 (m := 6) (by decide) (by decide)
  obtain ⟨y', ok', n', q⟩ : ∃ y', okD y' ∧ (∀ a, y' = .int a → a.natAbs < 10 ^ 18) ∧ (sIf (tCm (xCmp .Eq (xOwn ((Mk (k + 5)).call "_law_take") [] (xACons (xVar 1) (xACons (xC (.int (6))) xANil))) (xC (.int (0))))) (sCons (sSet 11 (xC (.int (0)))) sNil) sNil) [s0, .ow .own (HD cells p2 b2 t2), s2, s3, s4, s5, s6, s7, s8, s9, .fz x, .fz y, s12, s13, s14] = .next [s0, .ow .own (HD cells p3 b3 t3), s2, s3, s4, s5, s6, s7, s8, s9, .fz x, .fz y', s12, s13, s14] := by
    by_cases z : r = 0
    · subst z
      exact ⟨.int 0, trivial, fun a e => by cases e; decide, by simp [sCons, sSet, sRet, sNil, sIf, sSub, VE.tAnd, VE.tOr, VE.tNot, tCm, tE, xCmp, xIx, xBin, xBi, xOwn, xIte, xNeg, xTup, xLst, xCons, xNil, xACons, xANil, xVar, xC, Rs.bind, Rs.toF, Rs.of, Rf.of, deref, getSl, putI, VE.stI, mayStore, binD, binI, endF, outS, ixD, at40, at41, at42, at43, bi_len, bi_int, bi_abs, cm_eq, cm_lt, cm_gt, lend, lend1, atsOf, giveBack, findArg, comb, whole, truD, xAnd, xOr, xNot, xCmp2, xIsi, tyD, isi_NoneType_int, isi_NoneType_bool, isi_NoneType_tuple, isi_bool_int, isi_bool_bool, isi_bool_tuple, isi_int_int, isi_int_bool, isi_int_tuple, isi_str_int, isi_str_bool, isi_str_tuple, isi_tuple_int, isi_tuple_bool, isi_tuple_tuple, isi_list_int, isi_list_bool, isi_list_tuple, cm_le, cm_ge, cn1, cn2, cn3, cn4, bi_lenT, cm_ne, at20, at21, at10, comb_none, e3]⟩
    · exact ⟨y, ok2, n2, by simp [sCons, sSet, sRet, sNil, sIf, sSub, VE.tAnd, VE.tOr, VE.tNot, tCm, tE, xCmp, xIx, xBin, xBi, xOwn, xIte, xNeg, xTup, xLst, xCons, xNil, xACons, xANil, xVar, xC, Rs.bind, Rs.toF, Rs.of, Rf.of, deref, getSl, putI, VE.stI, mayStore, binD, binI, endF, outS, ixD, at40, at41, at42, at43, bi_len, bi_int, bi_abs, cm_eq, cm_lt, cm_gt, lend, lend1, atsOf, giveBack, findArg, comb, whole, truD, xAnd, xOr, xNot, xCmp2, xIsi, tyD, isi_NoneType_int, isi_NoneType_bool, isi_NoneType_tuple, isi_bool_int, isi_bool_bool, isi_bool_tuple, isi_int_int, isi_int_bool, isi_int_tuple, isi_str_int, isi_str_bool, isi_str_tuple, isi_tuple_int, isi_tuple_bool, isi_tuple_tuple, isi_list_int, isi_list_bool, isi_list_tuple, cm_le, cm_ge, cn1, cn2, cn3, cn4, bi_lenT, cm_ne, at20, at21, at10, comb_none, e3, z]⟩
  have e5 := c_due (k + 2) ok1 ok' (nat_bt n1) (nat_bt n')
  have e6 := c_lmake (k + 2) ok1 ok' (nat_bt n1) (nat_bt n')
  refine ⟨p3, b3, t3, x, y', due x y', due x y', ?_, h3⟩
  unfold turnB
  rw [seq_next (ρ1 := [s0, .ow .own (HD cells p1 b1 t1), s2, s3, s4, s5, s6, s7, s8, s9, .fz x, s11, s12, s13, s14]) (by simp [sCons, sSet, sRet, sNil, sIf, sSub, VE.tAnd, VE.tOr, VE.tNot, tCm, tE, xCmp, xIx, xBin, xBi, xOwn, xIte, xNeg, xTup, xLst, xCons, xNil, xACons, xANil, xVar, xC, Rs.bind, Rs.toF, Rs.of, Rf.of, deref, getSl, putI, VE.stI, ms_un, ms_fz, ms_ow, binD, binI, endF, outS, ixD, at40, at41, at42, at43, bi_len, bi_int, bi_abs, cm_eq, cm_lt, cm_gt, lend, lend1, atsOf, giveBack, findArg, comb, whole, truD, xAnd, xOr, xNot, xCmp2, xIsi, tyD, isi_NoneType_int, isi_NoneType_bool, isi_NoneType_tuple, isi_bool_int, isi_bool_bool, isi_bool_tuple, isi_int_int, isi_int_bool, isi_int_tuple, isi_str_int, isi_str_bool, isi_str_tuple, isi_tuple_int, isi_tuple_bool, isi_tuple_tuple, isi_list_int, isi_list_bool, isi_list_tuple, cm_le, cm_ge, cn1, cn2, cn3, cn4, bi_lenT, cm_ne, at20, at21, at10, comb_none, e1, m10])]
  rw [seq_next (ρ1 := [s0, .ow .own (HD cells p2 b2 t2), s2, s3, s4, s5, s6, s7, s8, s9, .fz x, .fz y, s12, s13, s14]) (by simp [sCons, sSet, sRet, sNil, sIf, sSub, VE.tAnd, VE.tOr, VE.tNot, tCm, tE, xCmp, xIx, xBin, xBi, xOwn, xIte, xNeg, xTup, xLst, xCons, xNil, xACons, xANil, xVar, xC, Rs.bind, Rs.toF, Rs.of, Rf.of, deref, getSl, putI, VE.stI, ms_un, ms_fz, ms_ow, binD, binI, endF, outS, ixD, at40, at41, at42, at43, bi_len, bi_int, bi_abs, cm_eq, cm_lt, cm_gt, lend, lend1, atsOf, giveBack, findArg, comb, whole, truD, xAnd, xOr, xNot, xCmp2, xIsi, tyD, isi_NoneType_int, isi_NoneType_bool, isi_NoneType_tuple, isi_bool_int, isi_bool_bool, isi_bool_tuple, isi_int_int, isi_int_bool, isi_int_tuple, isi_str_int, isi_str_bool, isi_str_tuple, isi_tuple_int, isi_tuple_bool, isi_tuple_tuple, isi_list_int, isi_list_bool, isi_list_tuple, cm_le, cm_ge, cn1, cn2, cn3, cn4, bi_lenT, cm_ne, at20, at21, at10, comb_none, e2, m11])]
  rw [seq_next q]
  rw [seq_next (ρ1 := [s0, .ow .own (HD cells p3 b3 t3), s2, s3, s4, s5, s6, s7, s8, s9, .fz x, .fz y', .fz (due x y'), s13, s14]) (by simp [sCons, sSet, sRet, sNil, sIf, sSub, VE.tAnd, VE.tOr, VE.tNot, tCm, tE, xCmp, xIx, xBin, xBi, xOwn, xIte, xNeg, xTup, xLst, xCons, xNil, xACons, xANil, xVar, xC, Rs.bind, Rs.toF, Rs.of, Rf.of, deref, getSl, putI, VE.stI, ms_un, ms_fz, ms_ow, binD, binI, endF, outS, ixD, at40, at41, at42, at43, bi_len, bi_int, bi_abs, cm_eq, cm_lt, cm_gt, lend, lend1, atsOf, giveBack, findArg, comb, whole, truD, xAnd, xOr, xNot, xCmp2, xIsi, tyD, isi_NoneType_int, isi_NoneType_bool, isi_NoneType_tuple, isi_bool_int, isi_bool_bool, isi_bool_tuple, isi_int_int, isi_int_bool, isi_int_tuple, isi_str_int, isi_str_bool, isi_str_tuple, isi_tuple_int, isi_tuple_bool, isi_tuple_tuple, isi_list_int, isi_list_bool, isi_list_tuple, cm_le, cm_ge, cn1, cn2, cn3, cn4, bi_lenT, cm_ne, at20, at21, at10, comb_none, e5, m12])]
  rw [seq_next (ρ1 := [s0, .ow .own (HD cells p3 b3 t3), s2, s3, s4, s5, s6, s7, s8, s9, .fz x, .fz y', .fz (due x y'), .fz (due x y'), s14]) (by simp [sCons, sSet, sRet, sNil, sIf, sSub, VE.tAnd, VE.tOr, VE.tNot, tCm, tE, xCmp, xIx, xBin, xBi, xOwn, xIte, xNeg, xTup, xLst, xCons, xNil, xACons, xANil, xVar, xC, Rs.bind, Rs.toF, Rs.of, Rf.of, deref, getSl, putI, VE.stI, ms_un, ms_fz, ms_ow, binD, binI, endF, outS, ixD, at40, at41, at42, at43, bi_len, bi_int, bi_abs, cm_eq, cm_lt, cm_gt, lend, lend1, atsOf, giveBack, findArg, comb, whole, truD, xAnd, xOr, xNot, xCmp2, xIsi, tyD, isi_NoneType_int, isi_NoneType_bool, isi_NoneType_tuple, isi_bool_int, isi_bool_bool, isi_bool_tuple, isi_int_int, isi_int_bool, isi_int_tuple, isi_str_int, isi_str_bool, isi_str_tuple, isi_tuple_int, isi_tuple_bool, isi_tuple_tuple, isi_list_int, isi_list_bool, isi_list_tuple, cm_le, cm_ge, cn1, cn2, cn3, cn4, bi_lenT, cm_ne, at20, at21, at10, comb_none, e6, m13])]
  rcases due_kind ok1.kd ok'.kd (nat_bt n1) (nat_bt n') with ⟨s, es, ec⟩ | ⟨p, ep, hp⟩
  · rw [es]
    simp [sCons, sSet, sRet, sNil, sIf, sSub, VE.tAnd, VE.tOr, VE.tNot, tCm, tE, xCmp, xIx, xBin, xBi, xOwn, xIte, xNeg, xTup, xLst, xCons, xNil, xACons, xANil, xVar, xC, Rs.bind, Rs.toF, Rs.of, Rf.of, deref, getSl, putI, VE.stI, mayStore, binD, binI, endF, outS, ixD, at40, at41, at42, at43, bi_len, bi_int, bi_abs, cm_eq, cm_lt, cm_gt, lend, lend1, atsOf, giveBack, findArg, comb, whole, truD, xAnd, xOr, xNot, xCmp2, xIsi, tyD, isi_NoneType_int, isi_NoneType_bool, isi_NoneType_tuple, isi_bool_int, isi_bool_bool, isi_bool_tuple, isi_int_int, isi_int_bool, isi_int_tuple, isi_str_int, isi_str_bool, isi_str_tuple, isi_tuple_int, isi_tuple_bool, isi_tuple_tuple, isi_list_int, isi_list_bool, isi_list_tuple, cm_le, cm_ge, cn1, cn2, cn3, cn4, bi_lenT, cm_ne, at20, at21, at10, comb_none, ec]
  · rw [ep]
    have e7 := c_lis_ratio (k + 3) (okD_rd hp)
    have e8 := isR_q hp
    have e9 := cm_nrd (p := p)
    simp only [RD] at e7 e8 e9 ⊢
    simp [sCons, sSet, sRet, sNil, sIf, sSub, VE.tAnd, VE.tOr, VE.tNot, tCm, tE, xCmp, xIx, xBin, xBi, xOwn, xIte, xNeg, xTup, xLst, xCons, xNil, xACons, xANil, xVar, xC, Rs.bind, Rs.toF, Rs.of, Rf.of, deref, getSl, putI, VE.stI, mayStore, binD, binI, endF, outS, ixD, at40, at41, at42, at43, bi_len, bi_int, bi_abs, cm_eq, cm_lt, cm_gt, lend, lend1, atsOf, giveBack, findArg, comb, whole, truD, xAnd, xOr, xNot, xCmp2, xIsi, tyD, isi_NoneType_int, isi_NoneType_bool, isi_NoneType_tuple, isi_bool_int, isi_bool_bool, isi_bool_tuple, isi_int_int, isi_int_bool, isi_int_tuple, isi_str_int, isi_str_bool, isi_str_tuple, isi_tuple_int, isi_tuple_bool, isi_tuple_tuple, isi_list_int, isi_list_bool, isi_list_tuple, cm_le, cm_ge, cn1, cn2, cn3, cn4, bi_lenT, cm_ne, at20, at21, at10, comb_none, e7, e8, e9]
theorem turns (k : Nat) {cells : List Int} {pos big tot : Int} (h : HOk cells pos big tot) {s0 s3 s4 s5 s6 s7 s8 s9 s14 : Sl} :
    ∃ p b t d2 d10 d11 d12 d13, sFor (iRng1 (xC (.int (4)))) (agI 2) (turnB (Mk (k + 5)).call) [s0, .ow .own (HD cells pos big tot), .un, s3, s4, s5, s6, s7, s8, s9, .un, .un, .un, .un, s14] = .next [s0, .ow .own (HD cells p b t), d2, s3, s4, s5, s6, s7, s8, s9, d10, d11, d12, d13, s14] ∧ HOk cells p b t ∧ Ms d2 ∧ flatSl (some d2) = true := by
  let I : Ro → Prop := fun ρ => ∃ p b t d2 d10 d11 d12 d13, ρ = [s0, .ow .own (HD cells p b t), d2, s3, s4, s5, s6, s7, s8, s9, d10, d11, d12, d13, s14] ∧ HOk cells p b t ∧ Ms d2 ∧ Ms d10 ∧ Ms d11 ∧ Ms d12 ∧ Ms d13 ∧ flatSl (some d2) = true
  obtain ⟨ρ2, e, p, b, t, d2, d10, d11, d12, d13, er, hh, m2, _, _, _, _, f2⟩ := loop_inv (asg := agI 2) (body := turnB (Mk (k + 5)).call) I (ds := rngD 0 4) (ρ := [s0, .ow .own (HD cells pos big tot), .un, s3, s4, s5, s6, s7, s8, s9, .un, .un, .un, .un, s14]) ⟨pos, big, tot, .un, .un, .un, .un, .un, rfl, h, rfl, rfl, rfl, rfl, rfl, rfl⟩ (by
    rintro d hd ρ ⟨p, b, t, d2, d10, d11, d12, d13, rfl, hh, m2, m10, m11, m12, m13, _⟩
    obtain ⟨p', b', t', e10, e11, e12, e13, e, hh'⟩ := turn_body k hh (s0 := s0) (s2 := .fz d) (s3 := s3) (s4 := s4) (s5 := s5) (s6 := s6) (s7 := s7) (s8 := s8) (s9 := s9) (s14 := s14) m10 m11 m12 m13
    refine ⟨_, _, ?_, e, p', b', t', .fz d, .fz e10, .fz e11, .fz e12, .fz e13, rfl, hh', rfl, rfl, rfl, rfl, rfl, rfl⟩
    unfold agI VE.stI
    exact if_pos m2)
  refine ⟨p, b, t, d2, d10, d11, d12, d13, ?_, hh, m2, f2⟩
  exact congrArg (Rf.map (unlockAll [])) (e.trans (congrArg Rf.next er))
end LawP
end

section
set_option Elab.async false
set_option linter.all false
set_option maxRecDepth 100000
set_option maxHeartbeats 4000000
namespace LawP
open PySem PySem.Spec L2 VE
def ratE (C : Str → List Sl → Cr) : XE := xOwn (C "_law_ratio") [] (xACons (xOwn (C "_law_signed") [] (xACons (xVar 1) xANil)) (xACons (xBin .Add (xC (.int (1))) (xOwn (C "_law_big") [] (xACons (xVar 1) xANil))) xANil))
theorem rat_elt (k : Nat) {cells : List Int} {pos big tot : Int} (h : HOk cells pos big tot) {s0 s2 s3 s4 s5 s6 s7 s8 s9 s10 s11 s12 s13 s14 : Sl} :
    ∃ (q : Int × Int) (p b t : Int), ratE (Mk (k + 4)).call [s0, .ow .own (HD cells pos big tot), s2, s3, s4, s5, s6, s7, s8, s9, s10, s11, s12, s13, s14] = .ok (.va (RD q) false) [s0, .ow .own (HD cells p b t), s2, s3, s4, s5, s6, s7, s8, s9, s10, s11, s12, s13, s14] ∧ HOk cells p b t ∧ Qo 60 q := by
  obtain ⟨x, p1, b1, t1, e1, n1, h1⟩ := c_signed k h
  obtain ⟨y, p2, b2, t2, e2, y0, y1, h2⟩ := c_big (k + 1) h1
  have x60 : Bt 60 x := Nat.lt_of_lt_of_le n1 (by decide)
  have y60 : Bt 60 (1 + y) := Nat.lt_of_le_of_lt (m := 10 ^ 18) (by omega) (by decide)
  have e3 := c_ratio (k + 2) x (1 + y) (x60.mono (by decide)) (y60.mono (by decide)) (by omega)
  refine ⟨rat x (1 + y), p2, b2, t2, ?_, h2, rat_ok (by omega) x60 y60⟩
  simp [sCons, sSet, sRet, sNil, sIf, sSub, VE.tAnd, VE.tOr, VE.tNot, tCm, tE, xCmp, xIx, xBin, xBi, xOwn, xIte, xNeg, xTup, xLst, xCons, xNil, xACons, xANil, xVar, xC, Rs.bind, Rs.toF, Rs.of, Rf.of, deref, getSl, putI, VE.stI, mayStore, binD, binI, endF, outS, ixD, at40, at41, at42, at43, bi_len, bi_int, bi_abs, cm_eq, cm_lt, cm_gt, lend, lend1, atsOf, giveBack, findArg, comb, whole, truD, xAnd, xOr, xNot, xCmp2, xIsi, tyD, isi_NoneType_int, isi_NoneType_bool, isi_NoneType_tuple, isi_bool_int, isi_bool_bool, isi_bool_tuple, isi_int_int, isi_int_bool, isi_int_tuple, isi_str_int, isi_str_bool, isi_str_tuple, isi_tuple_int, isi_tuple_bool, isi_tuple_tuple, isi_list_int, isi_list_bool, isi_list_tuple, cm_le, cm_ge, cn1, cn2, cn3, cn4, bi_lenT, cm_ne, at20, at21, at10, comb_none, ratE, e1, e2, e3]
theorem comp_loop (k : Nat) {s0 s3 s4 s5 s6 s7 s8 s9 s10 s11 s12 s13 s14 : Sl} : ∀ (ds : List D) (acc : List (Int × Int)) {cells : List Int} {pos big tot : Int}, HOk cells pos big tot → (∀ q ∈ acc, Qo 60 q) → acc.length + ds.length ≤ 20 →
    ∃ (qs : List (Int × Int)) (p b t : Int), loopC [2] (agI 2) tYes (ratE (Mk (k + 4)).call) ds (acc.map RD) [s0, .ow .own (HD cells pos big tot), .un, s3, s4, s5, s6, s7, s8, s9, s10, s11, s12, s13, s14] = .ok (qs.map RD) [s0, .ow .own (HD cells p b t), .un, s3, s4, s5, s6, s7, s8, s9, s10, s11, s12, s13, s14] ∧ HOk cells p b t ∧ (∀ q ∈ qs, Qo 60 q) ∧ qs.length = acc.length + ds.length
  | [], acc, cells, pos, big, tot, h, ha, hl => ⟨acc, pos, big, tot, rfl, h, ha, rfl⟩
  | d :: ds, acc, cells, pos, big, tot, h, ha, hl => by
    have hl' : acc.length + (ds.length + 1) ≤ 20 := hl
    obtain ⟨q, p, b, t, e, h', hq⟩ := rat_elt k h (s0 := s0) (s2 := .fz d) (s3 := s3) (s4 := s4) (s5 := s5) (s6 := s6) (s7 := s7) (s8 := s8) (s9 := s9) (s10 := s10) (s11 := s11) (s12 := s12) (s13 := s13) (s14 := s14)
    obtain ⟨qs, p2, b2, t2, e2, h2, hqs, hlen⟩ := comp_loop k (s0 := s0) (s3 := s3) (s4 := s4) (s5 := s5) (s6 := s6) (s7 := s7) (s8 := s8) (s9 := s9) (s10 := s10) (s11 := s11) (s12 := s12) (s13 := s13) (s14 := s14) ds (acc ++ [q]) h' (fun r hr => by
      rcases List.mem_append.mp hr with z | z
      · exact ha r z
      · rw [List.mem_singleton.mp z]; exact hq) (by rw [List.length_append, List.length_singleton]; omega)
    refine ⟨qs, p2, b2, t2, ?_, h2, hqs, by rw [hlen, List.length_append, List.length_singleton, List.length_cons]; omega⟩
    rw [← e2]
    have gs : (acc.map RD).length < sizeLine := by rw [sizeLine_eq, List.length_map]; omega
    have ea : agI 2 d [s0, .ow .own (HD cells pos big tot), .un, s3, s4, s5, s6, s7, s8, s9, s10, s11, s12, s13, s14] = some [s0, .ow .own (HD cells pos big tot), .fz d, s3, s4, s5, s6, s7, s8, s9, s10, s11, s12, s13, s14] := rfl
    rw [loopC, ea]
    simp only [VE.tYes, if_true]
    rw [e]
    simp only [whole]
    rw [if_pos (decide_eq_true gs), List.map_append]
    rfl
/-- the ratios -/
theorem comp_all (k : Nat) {cells : List Int} {pos big tot : Int} (h : HOk cells pos big tot) {s0 s2 s3 s4 s5 s6 s7 s8 s9 s10 s11 s12 s13 s14 : Sl} (f2 : flatSl (some s2) = true) :
    ∃ (qs : List (Int × Int)) (p b t : Int), xComp [2] (iRng1 (xBin .Add (xC (.int (2))) (xOwn ((Mk (k + 4)).call "_law_take") [] (xACons (xVar 1) (xACons (xC (.int (5))) xANil))))) (agI 2) tYes (ratE (Mk (k + 4)).call) [s0, .ow .own (HD cells pos big tot), s2, s3, s4, s5, s6, s7, s8, s9, s10, s11, s12, s13, s14] = .ok (.va (.lst (qs.map RD)) true) [s0, .ow .own (HD cells p b t), s2, s3, s4, s5, s6, s7, s8, s9, s10, s11, s12, s13, s14] ∧ HOk cells p b t ∧ (∀ q ∈ qs, Qo 60 q) ∧ 0 < qs.length ∧ qs.length ≤ 6 := by
  obtain ⟨r, p1, b1, t1, e1, r0, r1, h1⟩ := c_take (k + 2) h (m := 5) (by decide) (by decide)
  have hs : small62 (2 + r) = true := by
    unfold small62
    rw [decide_eq_true (by omega : -(2 ^ 62) ≤ 2 + r), decide_eq_true (by omega : 2 + r < 2 ^ 62)]
    rfl
  have hn : (rngD 0 (2 + r).toNat).length = (2 + r).toNat := by
    unfold rngD
    rw [List.length_map, List.length_range]
  obtain ⟨qs, p2, b2, t2, e2, h2, hqs, hlen⟩ := comp_loop k (s0 := s0) (s3 := s3) (s4 := s4) (s5 := s5) (s6 := s6) (s7 := s7) (s8 := s8) (s9 := s9) (s10 := s10) (s11 := s11) (s12 := s12) (s13 := s13) (s14 := s14) (rngD 0 (2 + r).toNat) [] h1 (fun _ z => by cases z) (by rw [hn]; simp; omega)
  rw [hn] at hlen
  have hlen' : qs.length = (2 + r).toNat := by simpa using hlen
  refine ⟨qs, p2, b2, t2, ?_, h2, hqs, by omega, by omega⟩
  have ei : iRng1 (xBin .Add (xC (.int (2))) (xOwn ((Mk (k + 4)).call "_law_take") [] (xACons (xVar 1) (xACons (xC (.int (5))) xANil)))) [s0, .ow .own (HD cells pos big tot), s2, s3, s4, s5, s6, s7, s8, s9, s10, s11, s12, s13, s14] = .ok (rngD 0 (2 + r).toNat, []) [s0, .ow .own (HD cells p1 b1 t1), s2, s3, s4, s5, s6, s7, s8, s9, s10, s11, s12, s13, s14] := by
    simp [VE.iRng1, sCons, sSet, sRet, sNil, sIf, sSub, VE.tAnd, VE.tOr, VE.tNot, tCm, tE, xCmp, xIx, xBin, xBi, xOwn, xIte, xNeg, xTup, xLst, xCons, xNil, xACons, xANil, xVar, xC, Rs.bind, Rs.toF, Rs.of, Rf.of, deref, getSl, putI, VE.stI, mayStore, binD, binI, endF, outS, ixD, at40, at41, at42, at43, bi_len, bi_int, bi_abs, cm_eq, cm_lt, cm_gt, lend, lend1, atsOf, giveBack, findArg, comb, whole, truD, xAnd, xOr, xNot, xCmp2, xIsi, tyD, isi_NoneType_int, isi_NoneType_bool, isi_NoneType_tuple, isi_bool_int, isi_bool_bool, isi_bool_tuple, isi_int_int, isi_int_bool, isi_int_tuple, isi_str_int, isi_str_bool, isi_str_tuple, isi_tuple_int, isi_tuple_bool, isi_tuple_tuple, isi_list_int, isi_list_bool, isi_list_tuple, cm_le, cm_ge, cn1, cn2, cn3, cn4, bi_lenT, cm_ne, at20, at21, at10, comb_none, e1, hs]
  unfold xComp
  rw [ei]
  simp only [Rs.bind]
  rw [if_pos (by simp [lockAll, f2])]
  have ew : wipeR [2] (lockAll [] [s0, .ow .own (HD cells p1 b1 t1), s2, s3, s4, s5, s6, s7, s8, s9, s10, s11, s12, s13, s14]) = [s0, .ow .own (HD cells p1 b1 t1), .un, s3, s4, s5, s6, s7, s8, s9, s10, s11, s12, s13, s14] := rfl
  rw [ew]
  have e2' : loopC [2] (agI 2) tYes (ratE (Mk (k + 4)).call) (rngD 0 (2 + r).toNat) [] [s0, .ow .own (HD cells p1 b1 t1), .un, s3, s4, s5, s6, s7, s8, s9, s10, s11, s12, s13, s14] = _ := e2
  rw [e2']
  rfl
theorem app1 (k : Nat) {cells : List Int} {pos big tot : Int} (h : HOk cells pos big tot) {s0 s2 s3 s5 s6 s7 s8 s9 s10 s11 s12 s13 s14 : Sl} {qs : List (Int × Int)} (hq : ∀ q ∈ qs, Qo 60 q) (l0 : 0 < qs.length) (l1 : qs.length ≤ 6) :
    ∃ (q : Int × Int) (p b t : Int), sDrop (xApp 4 (xIx (xVar 4) (xOwn ((Mk (k + 2)).call "_law_take") [] (xACons (xVar 1) (xACons (xBi "len" (xACons (xVar 4) xANil)) xANil))))) [s0, .ow .own (HD cells pos big tot), s2, s3, .ow .own (.lst (qs.map RD)), s5, s6, s7, s8, s9, s10, s11, s12, s13, s14] = .next [s0, .ow .own (HD cells p b t), s2, s3, .ow .own (.lst ((qs ++ [q]).map RD)), s5, s6, s7, s8, s9, s10, s11, s12, s13, s14] ∧ HOk cells p b t ∧ Qo 60 q := by
  obtain ⟨r, p1, b1, t1, e1, r0, r1, h1⟩ := c_take k h (m := qs.length) (by omega) (by omega)
  have hi : r.toNat < qs.length := by omega
  have ha : L2.atI (qs.map RD) r = some (RD qs[r.toNat]) := by
    unfold L2.atI ixN
    rw [if_pos r0, if_pos (by rw [List.length_map]; omega)]
    simp [hi]
  have gs : qs.length < sizeLine := by rw [sizeLine_eq]; omega
  refine ⟨qs[r.toNat], p1, b1, t1, ?_, h1, hq _ (List.getElem_mem hi)⟩
  simp [sDrop, xApp, sCons, sSet, sRet, sNil, sIf, sSub, VE.tAnd, VE.tOr, VE.tNot, tCm, tE, xCmp, xIx, xBin, xBi, xOwn, xIte, xNeg, xTup, xLst, xCons, xNil, xACons, xANil, xVar, xC, Rs.bind, Rs.toF, Rs.of, Rf.of, deref, getSl, putI, VE.stI, mayStore, binD, binI, endF, outS, ixD, at40, at41, at42, at43, bi_len, bi_int, bi_abs, cm_eq, cm_lt, cm_gt, lend, lend1, atsOf, giveBack, findArg, comb, whole, truD, xAnd, xOr, xNot, xCmp2, xIsi, tyD, isi_NoneType_int, isi_NoneType_bool, isi_NoneType_tuple, isi_bool_int, isi_bool_bool, isi_bool_tuple, isi_int_int, isi_int_bool, isi_int_tuple, isi_str_int, isi_str_bool, isi_str_tuple, isi_tuple_int, isi_tuple_bool, isi_tuple_tuple, isi_list_int, isi_list_bool, isi_list_tuple, cm_le, cm_ge, cn1, cn2, cn3, cn4, bi_lenT, cm_ne, at20, at21, at10, comb_none, e1, ha, gs]
theorem app2 {h : Sl} {s0 s2 s3 s5 s6 s7 s8 s9 s10 s11 s12 s13 s14 : Sl} {qs : List (Int × Int)} (l1 : qs.length ≤ 7) :
    sDrop (xApp 4 (xTup (xCons (xC (.int (0))) (xCons (xC (.int (1))) xNil)))) [s0, h, s2, s3, .ow .own (.lst (qs.map RD)), s5, s6, s7, s8, s9, s10, s11, s12, s13, s14] = .next [s0, h, s2, s3, .ow .own (.lst ((qs ++ [(0, 1)]).map RD)), s5, s6, s7, s8, s9, s10, s11, s12, s13, s14] := by
  have gs : qs.length < sizeLine := by rw [sizeLine_eq]; omega
  have em : (qs ++ [((0 : Int), (1 : Int))]).map RD = qs.map RD ++ [D.tup [.int 0, .int 1]] := by simp [RD]
  rw [em]
  simp [sDrop, xApp, sCons, sSet, sRet, sNil, sIf, sSub, VE.tAnd, VE.tOr, VE.tNot, tCm, tE, xCmp, xIx, xBin, xBi, xOwn, xIte, xNeg, xTup, xLst, xCons, xNil, xACons, xANil, xVar, xC, Rs.bind, Rs.toF, Rs.of, Rf.of, deref, getSl, putI, VE.stI, mayStore, binD, binI, endF, outS, ixD, at40, at41, at42, at43, bi_len, bi_int, bi_abs, cm_eq, cm_lt, cm_gt, lend, lend1, atsOf, giveBack, findArg, comb, whole, truD, xAnd, xOr, xNot, xCmp2, xIsi, tyD, isi_NoneType_int, isi_NoneType_bool, isi_NoneType_tuple, isi_bool_int, isi_bool_bool, isi_bool_tuple, isi_int_int, isi_int_bool, isi_int_tuple, isi_str_int, isi_str_bool, isi_str_tuple, isi_tuple_int, isi_tuple_bool, isi_tuple_tuple, isi_list_int, isi_list_bool, isi_list_tuple, cm_le, cm_ge, cn1, cn2, cn3, cn4, bi_lenT, cm_ne, at20, at21, at10, comb_none, gs, sz2]
/-- a whole number as a ratio, nought and one -/
def oneB (C : Str → List Sl → Cr) : XS := (sIf (tOr (tNot (tE (xOwn (C "_law_same_ratio") [] (xACons (xOwn (C "make_ratio") [.int (1)] (xACons (xVar 3) xANil)) (xACons (xTup (xCons (xVar 3) (xCons (xC (.int (1))) xNil))) xANil))))) (tOr (tNot (tE (xOwn (C "_law_same_ratio") [] (xACons (xC (.tup [.int (0), .int (1)])) (xACons (xTup (xCons (xC (.int (0))) (xCons (xC (.int (1))) xNil))) xANil))))) (tNot (tE (xOwn (C "_law_same_ratio") [] (xACons (xC (.tup [.int (1), .int (1)])) (xACons (xTup (xCons (xC (.int (1))) (xCons (xC (.int (1))) xNil))) xANil))))))) (sCons (sRet (xC (.bl false))) sNil) sNil)
theorem qo_one {w : Int} (h : Bt 60 w) : Qo 60 (w, 1) := by
  have := rat_ok (n := 60) (a := w) (b := 1) (by decide) h (by decide)
  rwa [rat_one] at this
theorem one_ok (k : Nat) {w : Int} (hw : Bt 60 w) {s0 s1 s2 s4 s5 s6 s7 s8 s9 s10 s11 s12 s13 s14 : Sl} :
    oneB (Mk (k + 3)).call [s0, s1, s2, .fz (.int w), s4, s5, s6, s7, s8, s9, s10, s11, s12, s13, s14] = .next [s0, s1, s2, .fz (.int w), s4, s5, s6, s7, s8, s9, s10, s11, s12, s13, s14] := by
  have e1 := c_make (k + 1) (a := w) (b := 1) (hw.mono (by decide)) (Nat.lt_of_lt_of_le (m := 2 ^ 1) (by decide) (Nat.pow_le_pow_right (by decide) (by decide))) (by decide)
  rw [rat_one] at e1
  have e2 := same_q k (qo_one hw) (by decide)
  have e3 := same_q k (p := (0, 1)) (qo_one (w := 0) (by decide)) (by decide)
  have e4 := same_q k (p := (1, 1)) (qo_one (w := 1) (by decide)) (by decide)
  simp only [RD] at e1 e2 e3 e4
  simp [oneB, sCons, sSet, sRet, sNil, sIf, sSub, VE.tAnd, VE.tOr, VE.tNot, tCm, tE, xCmp, xIx, xBin, xBi, xOwn, xIte, xNeg, xTup, xLst, xCons, xNil, xACons, xANil, xVar, xC, Rs.bind, Rs.toF, Rs.of, Rf.of, deref, getSl, putI, VE.stI, mayStore, binD, binI, endF, outS, ixD, at40, at41, at42, at43, bi_len, bi_int, bi_abs, cm_eq, cm_lt, cm_gt, lend, lend1, atsOf, giveBack, findArg, comb, whole, truD, xAnd, xOr, xNot, xCmp2, xIsi, tyD, isi_NoneType_int, isi_NoneType_bool, isi_NoneType_tuple, isi_bool_int, isi_bool_bool, isi_bool_tuple, isi_int_int, isi_int_bool, isi_int_tuple, isi_str_int, isi_str_bool, isi_str_tuple, isi_tuple_int, isi_tuple_bool, isi_tuple_tuple, isi_list_int, isi_list_bool, isi_list_tuple, cm_le, cm_ge, cn1, cn2, cn3, cn4, bi_lenT, cm_ne, at20, at21, at10, comb_none, sz2, e1, e2, e3, e4]
end LawP
end

section
set_option Elab.async false
set_option linter.all false
set_option maxRecDepth 100000
set_option maxHeartbeats 4000000
namespace LawP
open PySem PySem.Spec L2 VE
def pairB (C : Str → List Sl → Cr) : XS := (sCons (sIf (tNot (tE (xOwn (C "_law_pair_right") [] (xACons (xVar 6) (xACons (xVar 14) xANil))))) (sCons (sRet (xC (.bl false))) sNil) sNil) sNil)
def textB (C : Str → List Sl → Cr) : XS := (sIf (tOr (tCm (xCmp .NotEq (xOwn (C "ratio_text") [] (xACons (xVar 6) xANil)) (xIte (tCm (xCmp .Eq (xIx (xVar 6) (xC (.int (1)))) (xC (.int (1))))) (xBi "str" (xACons (xIx (xVar 6) (xC (.int (0)))) xANil)) (xBin .Add (xBin .Add (xBi "str" (xACons (xIx (xVar 6) (xC (.int (0)))) xANil)) (xC (.str (PySem.Str.ofString "/")))) (xBi "str" (xACons (xIx (xVar 6) (xC (.int (1)))) xANil)))))) (tCm (xCmp .IsNot (xOwn (C "is_ratio") [] (xACons (xVar 6) xANil)) (xC (.bl true))))) (sCons (sRet (xC (.bl false))) sNil) sNil)
def eachB (C : Str → List Sl → Cr) : XS := (sCons (sSet 5 (xOwn (C "_law_plus") [] (xACons (xVar 5) (xACons (xVar 6) xANil)))) (sCons (textB C) (sCons (sFor (iGen (xVar 4)) (agI 14) (pairB C)) sNil)))
theorem pair_body (k : Nat) {p q : Int × Int} (hp : Qo 60 p) (hq : Qo 60 q) {s0 s1 s2 s3 s4 s5 s7 s8 s9 s10 s11 s12 s13 : Sl} :
    pairB (Mk (k + 5)).call [s0, s1, s2, s3, s4, s5, .fz (RD p), s7, s8, s9, s10, s11, s12, s13, .fz (RD q)] = .next [s0, s1, s2, s3, s4, s5, .fz (RD p), s7, s8, s9, s10, s11, s12, s13, .fz (RD q)] := by
  have e := c_pair k hp hq (by decide) (by decide)
  simp [pairB, sCons, sSet, sRet, sNil, sIf, sSub, VE.tAnd, VE.tOr, VE.tNot, tCm, tE, xCmp, xIx, xBin, xBi, xOwn, xIte, xNeg, xTup, xLst, xCons, xNil, xACons, xANil, xVar, xC, Rs.bind, Rs.toF, Rs.of, Rf.of, deref, getSl, putI, VE.stI, mayStore, binD, binI, endF, outS, ixD, at40, at41, at42, at43, bi_len, bi_int, bi_abs, cm_eq, cm_lt, cm_gt, lend, lend1, atsOf, giveBack, findArg, comb, whole, truD, xAnd, xOr, xNot, xCmp2, xIsi, tyD, isi_NoneType_int, isi_NoneType_bool, isi_NoneType_tuple, isi_bool_int, isi_bool_bool, isi_bool_tuple, isi_int_int, isi_int_bool, isi_int_tuple, isi_str_int, isi_str_bool, isi_str_tuple, isi_tuple_int, isi_tuple_bool, isi_tuple_tuple, isi_list_int, isi_list_bool, isi_list_tuple, cm_le, cm_ge, cn1, cn2, cn3, cn4, bi_lenT, cm_ne, at20, at21, at10, comb_none, e]
theorem pairs (k : Nat) {p : Int × Int} {qs : List (Int × Int)} (hp : Qo 60 p) (hq : ∀ q ∈ qs, Qo 60 q) {s0 s1 s2 s3 s5 s7 s8 s9 s10 s11 s12 s13 s14 : Sl} (m14 : Ms s14) :
    ∃ s14', sFor (iGen (xVar 4)) (agI 14) (pairB (Mk (k + 5)).call) [s0, s1, s2, s3, .ow .lck (.lst (qs.map RD)), s5, .fz (RD p), s7, s8, s9, s10, s11, s12, s13, s14] = .next [s0, s1, s2, s3, .ow .lck (.lst (qs.map RD)), s5, .fz (RD p), s7, s8, s9, s10, s11, s12, s13, s14'] ∧ Ms s14' := by
  let I : Ro → Prop := fun ρ => ∃ s, ρ = [s0, s1, s2, s3, .ow .lck (.lst (qs.map RD)), s5, .fz (RD p), s7, s8, s9, s10, s11, s12, s13, s] ∧ Ms s
  obtain ⟨ρ2, e, s, er, ms⟩ := loop_inv (asg := agI 14) (body := pairB (Mk (k + 5)).call) I (ds := qs.map RD) ⟨s14, rfl, m14⟩ (by
    rintro d hd ρ ⟨s, rfl, ms⟩
    obtain ⟨q, hqm, rfl⟩ := List.mem_map.mp hd
    refine ⟨_, _, ?_, pair_body k hp (hq q hqm), .fz (RD q), rfl, rfl⟩
    unfold agI VE.stI
    exact if_pos ms)
  refine ⟨s, ?_, ms⟩
  exact congrArg (Rf.map (unlockAll [(4, .lck)])) (e.trans (congrArg Rf.next er))
theorem cm_ss {s : Str} : cmpD .NotEq (.str s) (.str s) = some false := by
  have : cmpD .NotEq (.str s) (.str s) = some (!(s == s)) := rfl
  rw [this]
  simp
theorem cm_inb {a b : Bool} : cmpD .IsNot (.bl a) (.bl b) = some (!decide (a = b)) := rfl
theorem text_ok (k : Nat) {p : Int × Int} (hp : Qo 60 p) {s0 s1 s2 s3 s4 s5 s7 s8 s9 s10 s11 s12 s13 s14 : Sl} :
    textB (Mk (k + 2)).call [s0, s1, s2, s3, s4, s5, .fz (RD p), s7, s8, s9, s10, s11, s12, s13, s14] = .next [s0, s1, s2, s3, s4, s5, .fz (RD p), s7, s8, s9, s10, s11, s12, s13, s14] := by
  have a := hp.a.mono (m := 1900) (by decide)
  have b := hp.b.mono (m := 1900) (by decide)
  have e1 := c_text (k + 1) a b
  have e2 := c_is_ratio k (okD_rd (hp.mono (by decide)))
  rw [isR_q hp] at e2
  have b1 := bi_str a
  have b2 := bi_str b
  have l1 := tx_len a
  have l2 := tx_len b
  have e : (Str.ofString "/").length = 1 := by decide +kernel
  have s2' : szOk ((tx p.1).length + 1) = true := by
    apply decide_eq_true
    rw [sizeLine_eq]; omega
  have s3' : szOk ((tx p.1).length + 1 + (tx p.2).length) = true := by
    apply decide_eq_true
    rw [sizeLine_eq]; omega
  simp only [RD] at e1 e2 ⊢
  by_cases h : p.2 = 1
  · have er : rtxt p = tx p.1 := if_pos h
    rw [er] at e1
    have t := eq_true h
    simp [textB, sCons, sSet, sRet, sNil, sIf, sSub, VE.tAnd, VE.tOr, VE.tNot, tCm, tE, xCmp, xIx, xBin, xBi, xOwn, xIte, xNeg, xTup, xLst, xCons, xNil, xACons, xANil, xVar, xC, Rs.bind, Rs.toF, Rs.of, Rf.of, deref, getSl, putI, VE.stI, mayStore, binD, binI, endF, outS, ixD, at40, at41, at42, at43, bi_len, bi_int, bi_abs, cm_eq, cm_lt, cm_gt, lend, lend1, atsOf, giveBack, findArg, comb, whole, truD, xAnd, xOr, xNot, xCmp2, xIsi, tyD, isi_NoneType_int, isi_NoneType_bool, isi_NoneType_tuple, isi_bool_int, isi_bool_bool, isi_bool_tuple, isi_int_int, isi_int_bool, isi_int_tuple, isi_str_int, isi_str_bool, isi_str_tuple, isi_tuple_int, isi_tuple_bool, isi_tuple_tuple, isi_list_int, isi_list_bool, isi_list_tuple, cm_le, cm_ge, cn1, cn2, cn3, cn4, bi_lenT, cm_ne, at20, at21, at10, comb_none, e1, e2, b1, cm_ss, cm_inb, t]
  · have er : rtxt p = tx p.1 ++ Str.ofString "/" ++ tx p.2 := if_neg h
    rw [er] at e1
    have t := eq_false h
    simp [textB, sCons, sSet, sRet, sNil, sIf, sSub, VE.tAnd, VE.tOr, VE.tNot, tCm, tE, xCmp, xIx, xBin, xBi, xOwn, xIte, xNeg, xTup, xLst, xCons, xNil, xACons, xANil, xVar, xC, Rs.bind, Rs.toF, Rs.of, Rf.of, deref, getSl, putI, VE.stI, mayStore, binD, binI, endF, outS, ixD, at40, at41, at42, at43, bi_len, bi_int, bi_abs, cm_eq, cm_lt, cm_gt, lend, lend1, atsOf, giveBack, findArg, comb, whole, truD, xAnd, xOr, xNot, xCmp2, xIsi, tyD, isi_NoneType_int, isi_NoneType_bool, isi_NoneType_tuple, isi_bool_int, isi_bool_bool, isi_bool_tuple, isi_int_int, isi_int_bool, isi_int_tuple, isi_str_int, isi_str_bool, isi_str_tuple, isi_tuple_int, isi_tuple_bool, isi_tuple_tuple, isi_list_int, isi_list_bool, isi_list_tuple, cm_le, cm_ge, cn1, cn2, cn3, cn4, bi_lenT, cm_ne, at20, at21, at10, comb_none, e1, e2, b1, b2, cm_ss, cm_inb, t, Str.length_append, e, s2', s3']
theorem each_loop (k : Nat) {all : List (Int × Int)} (hall : ∀ q ∈ all, Qo 60 q) {s0 s1 s2 s3 s7 s8 s9 s10 s11 s12 s13 : Sl} : ∀ (qs : List (Int × Int)) (t : Int × Int) (n : Nat) (s6 s14 : Sl), Ms s6 → Ms s14 → 0 < n → Qo n t → (∀ q ∈ qs, Qo 60 q) → n + 61 * qs.length ≤ 1700 →
    ∃ s6' s14', loopF (agI 6) (eachB (Mk (k + 5)).call) (qs.map RD) [s0, s1, s2, s3, .ow .lck (.lst (all.map RD)), .fz (RD t), s6, s7, s8, s9, s10, s11, s12, s13, s14] = .next [s0, s1, s2, s3, .ow .lck (.lst (all.map RD)), .fz (RD (sums qs t)), s6', s7, s8, s9, s10, s11, s12, s13, s14'] ∧ Qo (n + 61 * qs.length) (sums qs t)
  | [], t, n, s6, s14, _, _, _, ht, _, _ => ⟨s6, s14, rfl, ht⟩
  | q :: qs, t, n, s6, s14, m6, m14, hn, ht, hq, hl => by
    have hl' : n + 61 * (qs.length + 1) ≤ 1700 := hl
    have q1 := hq q List.mem_cons_self
    have e := c_lplus2 (k + 2) ht q1 hn (by decide) (by omega)
    obtain ⟨t14, e4, m4⟩ := pairs k q1 hall m14 (s0 := s0) (s1 := s1) (s2 := s2) (s3 := s3) (s5 := .fz (RD (rsum t q))) (s7 := s7) (s8 := s8) (s9 := s9) (s10 := s10) (s11 := s11) (s12 := s12) (s13 := s13)
    obtain ⟨s6', s14', e2, ok⟩ := each_loop k hall (s0 := s0) (s1 := s1) (s2 := s2) (s3 := s3) (s7 := s7) (s8 := s8) (s9 := s9) (s10 := s10) (s11 := s11) (s12 := s12) (s13 := s13) qs (rsum t q) (n + 60 + 1) (.fz (RD q)) t14 rfl m4 (by omega) (ht.rsum q1) (fun r hr => hq r (List.mem_cons_of_mem _ hr)) (by omega)
    refine ⟨s6', s14', ?_, ok.mono (by simp only [List.length_cons]; omega)⟩
    have ea : agI 6 (RD q) [s0, s1, s2, s3, .ow .lck (.lst (all.map RD)), .fz (RD t), s6, s7, s8, s9, s10, s11, s12, s13, s14] = some [s0, s1, s2, s3, .ow .lck (.lst (all.map RD)), .fz (RD t), .fz (RD q), s7, s8, s9, s10, s11, s12, s13, s14] := by
      unfold agI VE.stI
      exact if_pos m6
    have eb : eachB (Mk (k + 5)).call [s0, s1, s2, s3, .ow .lck (.lst (all.map RD)), .fz (RD t), .fz (RD q), s7, s8, s9, s10, s11, s12, s13, s14] = .next [s0, s1, s2, s3, .ow .lck (.lst (all.map RD)), .fz (RD (rsum t q)), .fz (RD q), s7, s8, s9, s10, s11, s12, s13, t14] := by
      unfold eachB
      rw [seq_next (ρ1 := [s0, s1, s2, s3, .ow .lck (.lst (all.map RD)), .fz (RD (rsum t q)), .fz (RD q), s7, s8, s9, s10, s11, s12, s13, s14]) (by simp [sCons, sSet, sRet, sNil, sIf, sSub, VE.tAnd, VE.tOr, VE.tNot, tCm, tE, xCmp, xIx, xBin, xBi, xOwn, xIte, xNeg, xTup, xLst, xCons, xNil, xACons, xANil, xVar, xC, Rs.bind, Rs.toF, Rs.of, Rf.of, deref, getSl, putI, VE.stI, mayStore, binD, binI, endF, outS, ixD, at40, at41, at42, at43, bi_len, bi_int, bi_abs, cm_eq, cm_lt, cm_gt, lend, lend1, atsOf, giveBack, findArg, comb, whole, truD, xAnd, xOr, xNot, xCmp2, xIsi, tyD, isi_NoneType_int, isi_NoneType_bool, isi_NoneType_tuple, isi_bool_int, isi_bool_bool, isi_bool_tuple, isi_int_int, isi_int_bool, isi_int_tuple, isi_str_int, isi_str_bool, isi_str_tuple, isi_tuple_int, isi_tuple_bool, isi_tuple_tuple, isi_list_int, isi_list_bool, isi_list_tuple, cm_le, cm_ge, cn1, cn2, cn3, cn4, bi_lenT, cm_ne, at20, at21, at10, comb_none, e])]
      rw [seq_next (text_ok (k + 3) q1), seq_next e4]
      rfl
    show (match agI 6 (RD q) [s0, s1, s2, s3, .ow .lck (.lst (all.map RD)), .fz (RD t), s6, s7, s8, s9, s10, s11, s12, s13, s14] with
      | none => Rf.stuck
      | some ρ1 => (match eachB (Mk (k + 5)).call ρ1 with
        | .next ρ2 => loopF (agI 6) (eachB (Mk (k + 5)).call) (qs.map RD) ρ2
        | .cnt ρ2 => loopF (agI 6) (eachB (Mk (k + 5)).call) (qs.map RD) ρ2
        | .brk ρ2 => .next ρ2
        | r => r)) = _
    rw [ea]
    simp only [eb]
    exact e2
theorem each_all (k : Nat) {qs : List (Int × Int)} (hq : ∀ q ∈ qs, Qo 60 q) (hl : qs.length ≤ 20) {s0 s1 s2 s3 s7 s8 s9 s10 s11 s12 s13 : Sl} :
    ∃ s6 s14, sFor (iGen (xVar 4)) (agI 6) (eachB (Mk (k + 5)).call) [s0, s1, s2, s3, .ow .own (.lst (qs.map RD)), .fz (RD (0, 1)), .un, s7, s8, s9, s10, s11, s12, s13, .un] = .next [s0, s1, s2, s3, .ow .own (.lst (qs.map RD)), .fz (RD (sums qs (0, 1))), s6, s7, s8, s9, s10, s11, s12, s13, s14] ∧ Qo 1900 (sums qs (0, 1)) := by
  obtain ⟨s6, s14, e, ok⟩ := each_loop k hq (s0 := s0) (s1 := s1) (s2 := s2) (s3 := s3) (s7 := s7) (s8 := s8) (s9 := s9) (s10 := s10) (s11 := s11) (s12 := s12) (s13 := s13) qs (0, 1) 1 .un .un rfl rfl (by decide) (qo_zero (Nat.le_refl _)) hq (by omega)
  refine ⟨s6, s14, ?_, ok.mono (by omega)⟩
  exact congrArg (Rf.map (unlockAll [(4, .own)])) e
theorem bi_tup {xs : List D} : biD (Str.ofString "tuple") [.lst xs] = some (.tup xs, false) := rfl
def sumsB (C : Str → List Sl → Cr) : XS := (sIf (tOr (tNot (tE (xOwn (C "_law_same_ratio") [] (xACons (xOwn (C "sum_of") [] (xACons (xVar 4) xANil)) (xACons (xVar 5) xANil))))) (tOr (tNot (tE (xOwn (C "_law_same_ratio") [] (xACons (xOwn (C "sum_of") [] (xACons (xBi "tuple" (xACons (xVar 4) xANil)) xANil)) (xACons (xVar 5) xANil))))) (tCm (xCmp .NotEq (xOwn (C "sum_of") [] (xACons (xLst xNil) xANil)) (xTup (xCons (xC (.int (0))) (xCons (xC (.int (1))) xNil))))))) (sCons (sRet (xC (.bl false))) sNil) sNil)
theorem sums_ok (k : Nat) {qs : List (Int × Int)} (hq : ∀ q ∈ qs, Qo 60 q) (hl : qs.length ≤ 20) (ht : Qo 1900 (sums qs (0, 1))) {s0 s1 s2 s3 s6 s7 s8 s9 s10 s11 s12 s13 s14 : Sl} :
    sumsB (Mk (k + 3)).call [s0, s1, s2, s3, .ow .own (.lst (qs.map RD)), .fz (RD (sums qs (0, 1))), s6, s7, s8, s9, s10, s11, s12, s13, s14] = .next [s0, s1, s2, s3, .ow .own (.lst (qs.map RD)), .fz (RD (sums qs (0, 1))), s6, s7, s8, s9, s10, s11, s12, s13, s14] := by
  have e1 := c_sum_own k qs hq hl
  have e2 := c_sum_tup k qs hq hl
  have e3 := c_sum_nil k
  have e4 := same_q k ht (Nat.le_refl _)
  have e5 := cm_nrd (p := (0, 1))
  simp only [RD] at e3 e5
  simp [sumsB, sCons, sSet, sRet, sNil, sIf, sSub, VE.tAnd, VE.tOr, VE.tNot, tCm, tE, xCmp, xIx, xBin, xBi, xOwn, xIte, xNeg, xTup, xLst, xCons, xNil, xACons, xANil, xVar, xC, Rs.bind, Rs.toF, Rs.of, Rf.of, deref, getSl, putI, VE.stI, mayStore, binD, binI, endF, outS, ixD, at40, at41, at42, at43, bi_len, bi_int, bi_abs, cm_eq, cm_lt, cm_gt, lend, lend1, atsOf, giveBack, findArg, comb, whole, truD, xAnd, xOr, xNot, xCmp2, xIsi, tyD, isi_NoneType_int, isi_NoneType_bool, isi_NoneType_tuple, isi_bool_int, isi_bool_bool, isi_bool_tuple, isi_int_int, isi_int_bool, isi_int_tuple, isi_str_int, isi_str_bool, isi_str_tuple, isi_tuple_int, isi_tuple_bool, isi_tuple_tuple, isi_list_int, isi_list_bool, isi_list_tuple, cm_le, cm_ge, cn1, cn2, cn3, cn4, bi_lenT, cm_ne, at20, at21, at10, comb_none, sz0, sz2, bi_tup, e1, e2, e3, e4, e5]
end LawP
end

section
set_option Elab.async false
set_option linter.all false
set_option maxRecDepth 100000
set_option maxHeartbeats 4000000
namespace LawP
open PySem PySem.Spec L2 VE
def thingB (C : Str → List Sl → Cr) : XS := (sCons (sIf (tOr (tNot (tE (xOwn (C "_law_truth") [] (xACons (xOwn (C "is_ratio") [] (xACons (xVar 9) xANil)) (xACons (xOwn (C "_law_is_ratio") [] (xACons (xVar 9) xANil)) xANil))))) (tNot (tE (xOwn (C "_law_truth") [] (xACons (xOwn (C "is_whole") [.non, .non] (xACons (xVar 9) xANil)) (xACons (xOwn (C "_law_int") [] (xACons (xVar 9) xANil)) xANil)))))) (sCons (sRet (xC (.bl false))) sNil) sNil) sNil)
theorem wh_non {d : D} : wh d .non .non = isI d := by cases d <;> rfl
theorem thing_body (k : Nat) {d : D} (h : okD d) {s0 s1 s2 s3 s4 s5 s6 s7 s8 s10 s11 s12 s13 s14 : Sl} :
    thingB (Mk (k + 2)).call [s0, s1, s2, s3, s4, s5, s6, s7, s8, .fz d, s10, s11, s12, s13, s14] = .next [s0, s1, s2, s3, s4, s5, s6, s7, s8, .fz d, s10, s11, s12, s13, s14] := by
  have e1 := c_is_ratio k h
  have e2 := c_lis_ratio k h
  have e3 := c_truth (k + 1) (a := isR d) (b := isR d)
  have e4 := c_is_whole (k + 1) h.kd (l := .non) (h := .non) rfl rfl
  rw [wh_non] at e4
  have e5 := c_int (k + 1) h.kd
  have e6 := c_truth (k + 1) (a := isI d) (b := isI d)
  rw [decide_eq_true rfl] at e3 e6
  simp [thingB, sCons, sSet, sRet, sNil, sIf, sSub, VE.tAnd, VE.tOr, VE.tNot, tCm, tE, xCmp, xIx, xBin, xBi, xOwn, xIte, xNeg, xTup, xLst, xCons, xNil, xACons, xANil, xVar, xC, Rs.bind, Rs.toF, Rs.of, Rf.of, deref, getSl, putI, VE.stI, mayStore, binD, binI, endF, outS, ixD, at40, at41, at42, at43, bi_len, bi_int, bi_abs, cm_eq, cm_lt, cm_gt, lend, lend1, atsOf, giveBack, findArg, comb, whole, truD, xAnd, xOr, xNot, xCmp2, xIsi, tyD, isi_NoneType_int, isi_NoneType_bool, isi_NoneType_tuple, isi_bool_int, isi_bool_bool, isi_bool_tuple, isi_int_int, isi_int_bool, isi_int_tuple, isi_str_int, isi_str_bool, isi_str_tuple, isi_tuple_int, isi_tuple_bool, isi_tuple_tuple, isi_list_int, isi_list_bool, isi_list_tuple, cm_le, cm_ge, cn1, cn2, cn3, cn4, bi_lenT, cm_ne, at20, at21, at10, comb_none, e1, e2, e3, e4, e5, e6]
theorem bt_small {n : Int} (h : n.natAbs ≤ 10 ^ 19) : Bt 1900 n := Nat.lt_of_le_of_lt h (Nat.lt_of_lt_of_le (m := 2 ^ 70) (by decide) (Nat.pow_le_pow_right (by decide) (by decide)))
theorem okD_of {ds : List D} (h : ∀ x ∈ ds, kd x = true ∧ ∀ a, x = .int a → a.natAbs ≤ 10 ^ 19) : okD (.tup ds) := fun x hx => ⟨(h x hx).1, fun a e => bt_small ((h x hx).2 a e)⟩
theorem things_ok {n : Int} (h0 : 0 < n) (h1 : n ≤ 10 ^ 18) : ∀ d ∈ things n, okD d := by
  have h2 : n ≤ 1000000000000000000 := h1
  have p : (10 : Nat) ^ 19 = 10000000000000000000 := by decide
  intro d hd
  simp only [things, List.mem_cons, List.not_mem_nil, or_false] at hd
  rcases hd with rfl | rfl | rfl | rfl | rfl | rfl | rfl | rfl | rfl | rfl | rfl | rfl | rfl | rfl
  all_goals first
    | trivial
    | (apply okD_of
       intro x hx
       first
         | (cases hx; done)
         | (simp only [List.mem_cons, List.not_mem_nil, or_false] at hx; rcases hx with rfl | rfl | rfl <;> exact ⟨rfl, fun a e => by first | (cases e; done) | (injection e with e; rw [p]; omega)⟩)
         | (simp only [List.mem_cons, List.not_mem_nil, or_false] at hx; rcases hx with rfl | rfl <;> exact ⟨rfl, fun a e => by first | (cases e; done) | (injection e with e; rw [p]; omega)⟩))
theorem things_loop (k : Nat) {ds : List D} (hd : ∀ d ∈ ds, okD d) {s0 s1 s2 s3 s4 s5 s6 s7 s8 s10 s11 s12 s13 s14 s9 : Sl} (m9 : Ms s9) :
    ∃ s9', loopF (agI 9) (thingB (Mk (k + 2)).call) ds [s0, s1, s2, s3, s4, s5, s6, s7, s8, s9, s10, s11, s12, s13, s14] = .next [s0, s1, s2, s3, s4, s5, s6, s7, s8, s9', s10, s11, s12, s13, s14] ∧ Ms s9' := by
  let I : Ro → Prop := fun ρ => ∃ s, ρ = [s0, s1, s2, s3, s4, s5, s6, s7, s8, s, s10, s11, s12, s13, s14] ∧ Ms s
  obtain ⟨ρ2, e, s, er, ms⟩ := loop_inv (asg := agI 9) (body := thingB (Mk (k + 2)).call) I (ds := ds) ⟨s9, rfl, m9⟩ (by
    rintro d hd' ρ ⟨s, rfl, ms⟩
    refine ⟨_, _, ?_, thing_body k (hd d hd'), .fz d, rfl, rfl⟩
    unfold agI VE.stI
    exact if_pos ms)
  exact ⟨s, by rw [e, er], ms⟩
theorem things_all (k : Nat) {cells : List Int} {pos big tot : Int} (h : HOk cells pos big tot) {s0 s2 s3 s4 s5 s6 s7 s8 s10 s11 s12 s13 s14 : Sl} :
    ∃ p b t s9, sFor (iGen (xOwn ((Mk (k + 4)).call "_law_things") [] (xACons (xVar 1) xANil))) (agI 9) (thingB (Mk (k + 4)).call) [s0, .ow .own (HD cells pos big tot), s2, s3, s4, s5, s6, s7, s8, .un, s10, s11, s12, s13, s14] = .next [s0, .ow .own (HD cells p b t), s2, s3, s4, s5, s6, s7, s8, s9, s10, s11, s12, s13, s14] ∧ Ms s9 := by
  obtain ⟨n, p, b, t, e1, n0, n1, h1⟩ := c_things k h
  obtain ⟨s9, e2, m9⟩ := things_loop (k + 2) (things_ok n0 n1) (s0 := s0) (s1 := .ow .own (HD cells p b t)) (s2 := s2) (s3 := s3) (s4 := s4) (s5 := s5) (s6 := s6) (s7 := s7) (s8 := s8) (s10 := s10) (s11 := s11) (s12 := s12) (s13 := s13) (s14 := s14) (s9 := .un) rfl
  refine ⟨p, b, t, s9, ?_, m9⟩
  have ei : iGen (xOwn ((Mk (k + 4)).call "_law_things") [] (xACons (xVar 1) xANil)) [s0, .ow .own (HD cells pos big tot), s2, s3, s4, s5, s6, s7, s8, .un, s10, s11, s12, s13, s14] = .ok (things n, []) [s0, .ow .own (HD cells p b t), s2, s3, s4, s5, s6, s7, s8, .un, s10, s11, s12, s13, s14] := by
    simp [VE.iGen, walkB, walkL, sCons, sSet, sRet, sNil, sIf, sSub, VE.tAnd, VE.tOr, VE.tNot, tCm, tE, xCmp, xIx, xBin, xBi, xOwn, xIte, xNeg, xTup, xLst, xCons, xNil, xACons, xANil, xVar, xC, Rs.bind, Rs.toF, Rs.of, Rf.of, deref, getSl, putI, VE.stI, mayStore, binD, binI, endF, outS, ixD, at40, at41, at42, at43, bi_len, bi_int, bi_abs, cm_eq, cm_lt, cm_gt, lend, lend1, atsOf, giveBack, findArg, comb, whole, truD, xAnd, xOr, xNot, xCmp2, xIsi, tyD, isi_NoneType_int, isi_NoneType_bool, isi_NoneType_tuple, isi_bool_int, isi_bool_bool, isi_bool_tuple, isi_int_int, isi_int_bool, isi_int_tuple, isi_str_int, isi_str_bool, isi_str_tuple, isi_tuple_int, isi_tuple_bool, isi_tuple_tuple, isi_list_int, isi_list_bool, isi_list_tuple, cm_le, cm_ge, cn1, cn2, cn3, cn4, bi_lenT, cm_ne, at20, at21, at10, comb_none, e1]
  unfold sFor
  rw [ei]
  exact congrArg (Rf.map (unlockAll [])) e2
def bound1 (C : Str → List Sl → Cr) : XS := (sIf (tNot (tE (xOwn (C "_law_truth") [] (xACons (xOwn (C "is_whole") [] (xACons (xVar 9) (xACons (xVar 7) (xACons (xVar 8) xANil)))) (xACons (xOwn (C "_law_whole") [] (xACons (xVar 9) (xACons (xVar 7) (xACons (xVar 8) xANil)))) xANil))))) (sCons (sRet (xC (.bl false))) sNil) sNil)
def bound2 (C : Str → List Sl → Cr) : XS := (sIf (tNot (tE (xOwn (C "_law_truth") [] (xACons (xKw (C "is_whole") 1 1 [.pos 0, .kw 0, .dfl 1] [.non, .non] (xCons (xVar 9) xNil) (xCons (xVar 7) xKw0)) (xACons (xAnd (xOwn (C "_law_int") [] (xACons (xVar 9) xANil)) (xCmp .LtE (xVar 7) (xVar 9))) xANil))))) (sCons (sRet (xC (.bl false))) sNil) sNil)
def bound3 (C : Str → List Sl → Cr) : XS := (sIf (tNot (tE (xOwn (C "_law_truth") [] (xACons (xKw (C "is_whole") 1 1 [.pos 0, .dfl 0, .kw 0] [.non, .non] (xCons (xVar 9) xNil) (xCons (xVar 8) xKw0)) (xACons (xAnd (xOwn (C "_law_int") [] (xACons (xVar 9) xANil)) (xCmp .LtE (xVar 9) (xVar 8))) xANil))))) (sCons (sRet (xC (.bl false))) sNil) sNil)
def boundB (C : Str → List Sl → Cr) : XS := (sCons (bound1 C) (sCons (bound2 C) (sCons (bound3 C) sNil)))
theorem bound_body (k : Nat) {d : D} {l m : Int} (h : kd d = true) {s0 s1 s2 s3 s4 s5 s6 s10 s11 s12 s13 s14 : Sl} :
    boundB (Mk (k + 1)).call [s0, s1, s2, s3, s4, s5, s6, .fz (.int l), .fz (.int m), .fz d, s10, s11, s12, s13, s14] = .next [s0, s1, s2, s3, s4, s5, s6, .fz (.int l), .fz (.int m), .fz d, s10, s11, s12, s13, s14] := by
  have e1 := c_is_whole k h (l := .int l) (h := .int m) rfl rfl
  have e2 := c_whole k (l := l) (h := m) h
  have e3 := c_truth k (a := wh d (.int l) (.int m)) (b := wh d (.int l) (.int m))
  have e4 := c_is_whole k h (l := .int l) (h := .non) rfl rfl
  have e5 := c_is_whole k h (l := .non) (h := .int m) rfl rfl
  have e6 := c_int k h
  have e7 := c_truth k (a := wh d (.int l) .non) (b := wh d (.int l) .non)
  have e8 := c_truth k (a := wh d .non (.int m)) (b := wh d .non (.int m))
  rw [decide_eq_true rfl] at e3 e7 e8
  unfold boundB
  rw [seq_next (ρ1 := [s0, s1, s2, s3, s4, s5, s6, .fz (.int l), .fz (.int m), .fz d, s10, s11, s12, s13, s14]) (by simp [bound1, sCons, sSet, sRet, sNil, sIf, sSub, VE.tAnd, VE.tOr, VE.tNot, tCm, tE, xCmp, xIx, xBin, xBi, xOwn, xIte, xNeg, xTup, xLst, xCons, xNil, xACons, xANil, xVar, xC, Rs.bind, Rs.toF, Rs.of, Rf.of, deref, getSl, putI, VE.stI, mayStore, binD, binI, endF, outS, ixD, at40, at41, at42, at43, bi_len, bi_int, bi_abs, cm_eq, cm_lt, cm_gt, lend, lend1, atsOf, giveBack, findArg, comb, whole, truD, xAnd, xOr, xNot, xCmp2, xIsi, tyD, isi_NoneType_int, isi_NoneType_bool, isi_NoneType_tuple, isi_bool_int, isi_bool_bool, isi_bool_tuple, isi_int_int, isi_int_bool, isi_int_tuple, isi_str_int, isi_str_bool, isi_str_tuple, isi_tuple_int, isi_tuple_bool, isi_tuple_tuple, isi_list_int, isi_list_bool, isi_list_tuple, cm_le, cm_ge, cn1, cn2, cn3, cn4, bi_lenT, cm_ne, at20, at21, at10, comb_none, e1, e2, e3])]
  rw [seq_next (ρ1 := [s0, s1, s2, s3, s4, s5, s6, .fz (.int l), .fz (.int m), .fz d, s10, s11, s12, s13, s14]) (by
    cases d with
    | int x =>
      have q : wh (.int x) (.int l) .non = decide (l ≤ x) := by simp [wh]
      rw [q] at e4 e7
      simp [bound2, sCons, sSet, sRet, sNil, sIf, sSub, VE.tAnd, VE.tOr, VE.tNot, tCm, tE, xCmp, xIx, xBin, xBi, xOwn, xIte, xNeg, xTup, xLst, xCons, xNil, xACons, xANil, xVar, xC, Rs.bind, Rs.toF, Rs.of, Rf.of, deref, getSl, putI, VE.stI, mayStore, binD, binI, endF, outS, ixD, at40, at41, at42, at43, bi_len, bi_int, bi_abs, cm_eq, cm_lt, cm_gt, lend, lend1, atsOf, giveBack, findArg, comb, whole, truD, xAnd, xOr, xNot, xCmp2, xIsi, tyD, isi_NoneType_int, isi_NoneType_bool, isi_NoneType_tuple, isi_bool_int, isi_bool_bool, isi_bool_tuple, isi_int_int, isi_int_bool, isi_int_tuple, isi_str_int, isi_str_bool, isi_str_tuple, isi_tuple_int, isi_tuple_bool, isi_tuple_tuple, isi_list_int, isi_list_bool, isi_list_tuple, cm_le, cm_ge, cn1, cn2, cn3, cn4, bi_lenT, cm_ne, at20, at21, at10, comb_none, xKw, xKw0, planL, e4, e6, e7, isI]
    | scr _ => cases h
    | obj _ _ => cases h
    | _ =>
      simp only [wh, isI] at e4 e6 e7
      simp [bound2, sCons, sSet, sRet, sNil, sIf, sSub, VE.tAnd, VE.tOr, VE.tNot, tCm, tE, xCmp, xIx, xBin, xBi, xOwn, xIte, xNeg, xTup, xLst, xCons, xNil, xACons, xANil, xVar, xC, Rs.bind, Rs.toF, Rs.of, Rf.of, deref, getSl, putI, VE.stI, mayStore, binD, binI, endF, outS, ixD, at40, at41, at42, at43, bi_len, bi_int, bi_abs, cm_eq, cm_lt, cm_gt, lend, lend1, atsOf, giveBack, findArg, comb, whole, truD, xAnd, xOr, xNot, xCmp2, xIsi, tyD, isi_NoneType_int, isi_NoneType_bool, isi_NoneType_tuple, isi_bool_int, isi_bool_bool, isi_bool_tuple, isi_int_int, isi_int_bool, isi_int_tuple, isi_str_int, isi_str_bool, isi_str_tuple, isi_tuple_int, isi_tuple_bool, isi_tuple_tuple, isi_list_int, isi_list_bool, isi_list_tuple, cm_le, cm_ge, cn1, cn2, cn3, cn4, bi_lenT, cm_ne, at20, at21, at10, comb_none, xKw, xKw0, planL, e4, e6, e7])]
  rw [seq_next (ρ1 := [s0, s1, s2, s3, s4, s5, s6, .fz (.int l), .fz (.int m), .fz d, s10, s11, s12, s13, s14]) (by
    cases d with
    | int x =>
      have q : wh (.int x) .non (.int m) = decide (x ≤ m) := by simp [wh]
      rw [q] at e5 e8
      simp [bound3, sCons, sSet, sRet, sNil, sIf, sSub, VE.tAnd, VE.tOr, VE.tNot, tCm, tE, xCmp, xIx, xBin, xBi, xOwn, xIte, xNeg, xTup, xLst, xCons, xNil, xACons, xANil, xVar, xC, Rs.bind, Rs.toF, Rs.of, Rf.of, deref, getSl, putI, VE.stI, mayStore, binD, binI, endF, outS, ixD, at40, at41, at42, at43, bi_len, bi_int, bi_abs, cm_eq, cm_lt, cm_gt, lend, lend1, atsOf, giveBack, findArg, comb, whole, truD, xAnd, xOr, xNot, xCmp2, xIsi, tyD, isi_NoneType_int, isi_NoneType_bool, isi_NoneType_tuple, isi_bool_int, isi_bool_bool, isi_bool_tuple, isi_int_int, isi_int_bool, isi_int_tuple, isi_str_int, isi_str_bool, isi_str_tuple, isi_tuple_int, isi_tuple_bool, isi_tuple_tuple, isi_list_int, isi_list_bool, isi_list_tuple, cm_le, cm_ge, cn1, cn2, cn3, cn4, bi_lenT, cm_ne, at20, at21, at10, comb_none, xKw, xKw0, planL, e5, e6, e8, isI]
    | scr _ => cases h
    | obj _ _ => cases h
    | _ =>
      simp only [wh, isI] at e5 e6 e8
      simp [bound3, sCons, sSet, sRet, sNil, sIf, sSub, VE.tAnd, VE.tOr, VE.tNot, tCm, tE, xCmp, xIx, xBin, xBi, xOwn, xIte, xNeg, xTup, xLst, xCons, xNil, xACons, xANil, xVar, xC, Rs.bind, Rs.toF, Rs.of, Rf.of, deref, getSl, putI, VE.stI, mayStore, binD, binI, endF, outS, ixD, at40, at41, at42, at43, bi_len, bi_int, bi_abs, cm_eq, cm_lt, cm_gt, lend, lend1, atsOf, giveBack, findArg, comb, whole, truD, xAnd, xOr, xNot, xCmp2, xIsi, tyD, isi_NoneType_int, isi_NoneType_bool, isi_NoneType_tuple, isi_bool_int, isi_bool_bool, isi_bool_tuple, isi_int_int, isi_int_bool, isi_int_tuple, isi_str_int, isi_str_bool, isi_str_tuple, isi_tuple_int, isi_tuple_bool, isi_tuple_tuple, isi_list_int, isi_list_bool, isi_list_tuple, cm_le, cm_ge, cn1, cn2, cn3, cn4, bi_lenT, cm_ne, at20, at21, at10, comb_none, xKw, xKw0, planL, e5, e6, e8])]
  rfl
def bounds (l m : Int) : List D := [.int (l - 1), .int l, .int m, .int (m + 1), .bl true, .non, .str (Str.ofString "1"), .tup [.int l]]
theorem bounds_kd {l m : Int} : ∀ d ∈ bounds l m, kd d = true := by
  intro d hd
  simp only [bounds, List.mem_cons, List.not_mem_nil, or_false] at hd
  rcases hd with rfl | rfl | rfl | rfl | rfl | rfl | rfl | rfl <;> rfl
def boundL : XI := (iGen (xLst (xCons (xBin .Sub (xVar 7) (xC (.int (1)))) (xCons (xVar 7) (xCons (xVar 8) (xCons (xBin .Add (xVar 8) (xC (.int (1)))) (xCons (xC (.bl true)) (xCons (xC (.non)) (xCons (xC (.str (PySem.Str.ofString "1"))) (xCons (xTup (xCons (xVar 7) xNil)) xNil))))))))))
theorem sz8 : szOk 8 = true := by decide
theorem sz1 : szOk 1 = true := by decide
theorem bounds_all (k : Nat) {l m : Int} {s0 s1 s2 s3 s4 s5 s6 s9 s10 s11 s12 s13 s14 : Sl} (m9 : Ms s9) :
    ∃ ρ, sFor boundL (agI 9) (boundB (Mk (k + 1)).call) [s0, s1, s2, s3, s4, s5, s6, .fz (.int l), .fz (.int m), s9, s10, s11, s12, s13, s14] = .next ρ := by
  let I : Ro → Prop := fun ρ => ∃ s, ρ = [s0, s1, s2, s3, s4, s5, s6, .fz (.int l), .fz (.int m), s, s10, s11, s12, s13, s14] ∧ Ms s
  obtain ⟨ρ2, e, s, er, ms⟩ := loop_inv (asg := agI 9) (body := boundB (Mk (k + 1)).call) I (ds := bounds l m) ⟨s9, rfl, m9⟩ (by
    rintro d hd' ρ ⟨s, rfl, ms⟩
    refine ⟨_, _, ?_, bound_body k (bounds_kd d hd'), .fz d, rfl, rfl⟩
    unfold agI VE.stI
    exact if_pos ms)
  refine ⟨ρ2, ?_⟩
  have ei : boundL [s0, s1, s2, s3, s4, s5, s6, .fz (.int l), .fz (.int m), s9, s10, s11, s12, s13, s14] = .ok (bounds l m, []) [s0, s1, s2, s3, s4, s5, s6, .fz (.int l), .fz (.int m), s9, s10, s11, s12, s13, s14] := by
    simp [boundL, VE.iGen, walkB, walkL, sCons, sSet, sRet, sNil, sIf, sSub, VE.tAnd, VE.tOr, VE.tNot, tCm, tE, xCmp, xIx, xBin, xBi, xOwn, xIte, xNeg, xTup, xLst, xCons, xNil, xACons, xANil, xVar, xC, Rs.bind, Rs.toF, Rs.of, Rf.of, deref, getSl, putI, VE.stI, mayStore, binD, binI, endF, outS, ixD, at40, at41, at42, at43, bi_len, bi_int, bi_abs, cm_eq, cm_lt, cm_gt, lend, lend1, atsOf, giveBack, findArg, comb, whole, truD, xAnd, xOr, xNot, xCmp2, xIsi, tyD, isi_NoneType_int, isi_NoneType_bool, isi_NoneType_tuple, isi_bool_int, isi_bool_bool, isi_bool_tuple, isi_int_int, isi_int_bool, isi_int_tuple, isi_str_int, isi_str_bool, isi_str_tuple, isi_tuple_int, isi_tuple_bool, isi_tuple_tuple, isi_list_int, isi_list_bool, isi_list_tuple, cm_le, cm_ge, cn1, cn2, cn3, cn4, bi_lenT, cm_ne, at20, at21, at10, comb_none, sz1, sz8, bounds]
  unfold sFor
  rw [ei]
  exact (congrArg (Rf.map (unlockAll [])) e)
theorem law_m (C : Str → List Sl → Cr) : m_law C = (sCons (sSet 1 (xOwn (C "_law_hand") [] (xACons (xVar 0) xANil))) (sCons (sFor (iRng1 (xC (.int (4)))) (agI 2) (turnB C)) (sCons (sSet 3 (xOwn (C "_law_signed") [] (xACons (xVar 1) xANil))) (sCons (oneB C) (sCons (sSet 4 (xComp [2] (iRng1 (xBin .Add (xC (.int (2))) (xOwn (C "_law_take") [] (xACons (xVar 1) (xACons (xC (.int (5))) xANil))))) (agI 2) tYes (ratE C))) (sCons (sDrop (xApp 4 (xIx (xVar 4) (xOwn (C "_law_take") [] (xACons (xVar 1) (xACons (xBi "len" (xACons (xVar 4) xANil)) xANil)))))) (sCons (sDrop (xApp 4 (xTup (xCons (xC (.int (0))) (xCons (xC (.int (1))) xNil))))) (sCons (sSet 5 (xTup (xCons (xC (.int (0))) (xCons (xC (.int (1))) xNil)))) (sCons (sFor (iGen (xVar 4)) (agI 6) (eachB C)) (sCons (sumsB C) (sCons (sSet 7 (xOwn (C "_law_signed") [] (xACons (xVar 1) xANil))) (sCons (sSet 8 (xBin .Add (xVar 7) (xOwn (C "_law_take") [] (xACons (xVar 1) (xACons (xC (.int (3))) xANil))))) (sCons (sFor (iGen (xOwn (C "_law_things") [] (xACons (xVar 1) xANil))) (agI 9) (thingB C)) (sCons (sFor boundL (agI 9) (boundB C)) (sCons (sRet (xC (.bl true))) sNil))))))))))))))) := rfl
theorem plain_at (k : Nat) : Plain 60 (k + 7) := by
  intro ns hl _
  show ∃ as, (Mk (k + 6)).call "law" [.fz (.scr (ns.map .int))] = _
  rw [call_eq (k := k + 5) (e := e_law) rfl (mo_law (k + 5)) rfl rfl, law_m]
  obtain ⟨cells, tot, as, e0, h0⟩ := c_hand (k + 4) ns hl
  obtain ⟨p1, b1, t1, s2, s10, s11, s12, s13, e1, h1, m2, f2⟩ := turns k h0 (s0 := .fz (.scr (ns.map .int))) (s3 := .un) (s4 := .un) (s5 := .un) (s6 := .un) (s7 := .un) (s8 := .un) (s9 := .un) (s14 := .un)
  obtain ⟨w, p2, b2, t2, e2, w0, h2⟩ := c_signed (k + 1) h1
  have w60 : Bt 60 w := Nat.lt_of_lt_of_le w0 (by decide)
  obtain ⟨qs, p3, b3, t3, e3, h3, hq3, l0, l1⟩ := comp_all (k + 1) h2 (s0 := .fz (.scr (ns.map .int))) (s2 := s2) (s3 := .fz (.int w)) (s4 := .un) (s5 := .un) (s6 := .un) (s7 := .un) (s8 := .un) (s9 := .un) (s10 := s10) (s11 := s11) (s12 := s12) (s13 := s13) (s14 := .un) f2
  obtain ⟨q, p4, b4, t4, e4, h4, hq⟩ := app1 (k + 3) h3 hq3 l0 l1 (s0 := .fz (.scr (ns.map .int))) (s2 := s2) (s3 := .fz (.int w)) (s5 := .un) (s6 := .un) (s7 := .un) (s8 := .un) (s9 := .un) (s10 := s10) (s11 := s11) (s12 := s12) (s13 := s13) (s14 := .un)
  have e5 := app2 (h := .ow .own (HD cells p4 b4 t4)) (qs := qs ++ [q]) (s0 := .fz (.scr (ns.map .int))) (s2 := s2) (s3 := .fz (.int w)) (s5 := .un) (s6 := .un) (s7 := .un) (s8 := .un) (s9 := .un) (s10 := s10) (s11 := s11) (s12 := s12) (s13 := s13) (s14 := .un) (by rw [List.length_append, List.length_singleton]; omega)
  have hall : ∀ r ∈ qs ++ [q] ++ [(0, 1)], Qo 60 r := by
    intro r hr
    rcases List.mem_append.mp hr with z | z
    · rcases List.mem_append.mp z with y | y
      · exact hq3 r y
      · rw [List.mem_singleton.mp y]; exact hq
    · rw [List.mem_singleton.mp z]; exact qo_zero (by decide)
  have hlen : (qs ++ [q] ++ [((0 : Int), (1 : Int))]).length ≤ 20 := by
    rw [List.length_append, List.length_append, List.length_singleton, List.length_singleton]; omega
  obtain ⟨s6, s14, e6, ht⟩ := each_all k hall hlen (s0 := .fz (.scr (ns.map .int))) (s1 := .ow .own (HD cells p4 b4 t4)) (s2 := s2) (s3 := .fz (.int w)) (s7 := .un) (s8 := .un) (s9 := .un) (s10 := s10) (s11 := s11) (s12 := s12) (s13 := s13)
  have e7 := sums_ok (k + 2) hall hlen ht (s0 := .fz (.scr (ns.map .int))) (s1 := .ow .own (HD cells p4 b4 t4)) (s2 := s2) (s3 := .fz (.int w)) (s6 := s6) (s7 := .un) (s8 := .un) (s9 := .un) (s10 := s10) (s11 := s11) (s12 := s12) (s13 := s13) (s14 := s14)
  obtain ⟨x, p5, b5, t5, e8, x0, h5⟩ := c_signed (k + 1) h4
  obtain ⟨y, p6, b6, t6, e9, y0, y1, h6⟩ := c_take (k + 3) h5 (m := 3) (by decide) (by decide)
  generalize hA : D.lst ((qs ++ [q] ++ [((0 : Int), (1 : Int))]).map RD) = A at e5 e6 e7
  generalize hT : RD (sums (qs ++ [q] ++ [((0 : Int), (1 : Int))]) (0, 1)) = T at e6 e7
  obtain ⟨p7, b7, t7, s9, e10, m9⟩ := things_all (k + 1) h6 (s0 := .fz (.scr (ns.map .int))) (s2 := s2) (s3 := .fz (.int w)) (s4 := .ow .own A) (s5 := .fz T) (s6 := s6) (s7 := .fz (.int x)) (s8 := .fz (.int (x + y))) (s10 := s10) (s11 := s11) (s12 := s12) (s13 := s13) (s14 := s14)
  obtain ⟨ρ, e11⟩ := bounds_all (k + 4) (l := x) (m := x + y) m9 (s0 := .fz (.scr (ns.map .int))) (s1 := .ow .own (HD cells p7 b7 t7)) (s2 := s2) (s3 := .fz (.int w)) (s4 := .ow .own A) (s5 := .fz T) (s6 := s6) (s10 := s10) (s11 := s11) (s12 := s12) (s13 := s13) (s14 := s14)
  show ∃ as, endF _ (sCons _ _ [.fz (.scr (ns.map .int)), .un, .un, .un, .un, .un, .un, .un, .un, .un, .un, .un, .un, .un, .un]) = _
  rw [seq_next (ρ1 := [.fz (.scr (ns.map .int)), .ow .own (HD cells 0 0 tot), .un, .un, .un, .un, .un, .un, .un, .un, .un, .un, .un, .un, .un]) (by simp [sCons, sSet, sRet, sNil, sIf, sSub, VE.tAnd, VE.tOr, VE.tNot, tCm, tE, xCmp, xIx, xBin, xBi, xOwn, xIte, xNeg, xTup, xLst, xCons, xNil, xACons, xANil, xVar, xC, Rs.bind, Rs.toF, Rs.of, Rf.of, deref, getSl, putI, VE.stI, mayStore, binD, binI, endF, outS, ixD, at40, at41, at42, at43, bi_len, bi_int, bi_abs, cm_eq, cm_lt, cm_gt, lend, lend1, atsOf, giveBack, findArg, comb, whole, truD, xAnd, xOr, xNot, xCmp2, xIsi, tyD, isi_NoneType_int, isi_NoneType_bool, isi_NoneType_tuple, isi_bool_int, isi_bool_bool, isi_bool_tuple, isi_int_int, isi_int_bool, isi_int_tuple, isi_str_int, isi_str_bool, isi_str_tuple, isi_tuple_int, isi_tuple_bool, isi_tuple_tuple, isi_list_int, isi_list_bool, isi_list_tuple, cm_le, cm_ge, cn1, cn2, cn3, cn4, bi_lenT, cm_ne, at20, at21, at10, comb_none, e0])]
  rw [seq_next e1]
  rw [seq_next (ρ1 := [.fz (.scr (ns.map .int)), .ow .own (HD cells p2 b2 t2), s2, .fz (.int w), .un, .un, .un, .un, .un, .un, s10, s11, s12, s13, .un]) (by simp [sCons, sSet, sRet, sNil, sIf, sSub, VE.tAnd, VE.tOr, VE.tNot, tCm, tE, xCmp, xIx, xBin, xBi, xOwn, xIte, xNeg, xTup, xLst, xCons, xNil, xACons, xANil, xVar, xC, Rs.bind, Rs.toF, Rs.of, Rf.of, deref, getSl, putI, VE.stI, mayStore, binD, binI, endF, outS, ixD, at40, at41, at42, at43, bi_len, bi_int, bi_abs, cm_eq, cm_lt, cm_gt, lend, lend1, atsOf, giveBack, findArg, comb, whole, truD, xAnd, xOr, xNot, xCmp2, xIsi, tyD, isi_NoneType_int, isi_NoneType_bool, isi_NoneType_tuple, isi_bool_int, isi_bool_bool, isi_bool_tuple, isi_int_int, isi_int_bool, isi_int_tuple, isi_str_int, isi_str_bool, isi_str_tuple, isi_tuple_int, isi_tuple_bool, isi_tuple_tuple, isi_list_int, isi_list_bool, isi_list_tuple, cm_le, cm_ge, cn1, cn2, cn3, cn4, bi_lenT, cm_ne, at20, at21, at10, comb_none, e2])]
  rw [seq_next (one_ok (k + 2) w60)]
  rw [seq_next (ρ1 := [.fz (.scr (ns.map .int)), .ow .own (HD cells p3 b3 t3), s2, .fz (.int w), .ow .own (.lst (qs.map RD)), .un, .un, .un, .un, .un, s10, s11, s12, s13, .un]) (by
    unfold sSet
    rw [e3]
    rfl)]
  rw [seq_next e4, seq_next e5]
  rw [seq_next (ρ1 := [.fz (.scr (ns.map .int)), .ow .own (HD cells p4 b4 t4), s2, .fz (.int w), .ow .own A, .fz (RD (0, 1)), .un, .un, .un, .un, s10, s11, s12, s13, .un]) (by simp [sCons, sSet, sRet, sNil, sIf, sSub, VE.tAnd, VE.tOr, VE.tNot, tCm, tE, xCmp, xIx, xBin, xBi, xOwn, xIte, xNeg, xTup, xLst, xCons, xNil, xACons, xANil, xVar, xC, Rs.bind, Rs.toF, Rs.of, Rf.of, deref, getSl, putI, VE.stI, mayStore, binD, binI, endF, outS, ixD, at40, at41, at42, at43, bi_len, bi_int, bi_abs, cm_eq, cm_lt, cm_gt, lend, lend1, atsOf, giveBack, findArg, comb, whole, truD, xAnd, xOr, xNot, xCmp2, xIsi, tyD, isi_NoneType_int, isi_NoneType_bool, isi_NoneType_tuple, isi_bool_int, isi_bool_bool, isi_bool_tuple, isi_int_int, isi_int_bool, isi_int_tuple, isi_str_int, isi_str_bool, isi_str_tuple, isi_tuple_int, isi_tuple_bool, isi_tuple_tuple, isi_list_int, isi_list_bool, isi_list_tuple, cm_le, cm_ge, cn1, cn2, cn3, cn4, bi_lenT, cm_ne, at20, at21, at10, comb_none, sz2, RD])]
  rw [seq_next e6, seq_next e7]
  rw [seq_next (ρ1 := [.fz (.scr (ns.map .int)), .ow .own (HD cells p5 b5 t5), s2, .fz (.int w), .ow .own A, .fz T, s6, .fz (.int x), .un, .un, s10, s11, s12, s13, s14]) (by simp [sCons, sSet, sRet, sNil, sIf, sSub, VE.tAnd, VE.tOr, VE.tNot, tCm, tE, xCmp, xIx, xBin, xBi, xOwn, xIte, xNeg, xTup, xLst, xCons, xNil, xACons, xANil, xVar, xC, Rs.bind, Rs.toF, Rs.of, Rf.of, deref, getSl, putI, VE.stI, mayStore, binD, binI, endF, outS, ixD, at40, at41, at42, at43, bi_len, bi_int, bi_abs, cm_eq, cm_lt, cm_gt, lend, lend1, atsOf, giveBack, findArg, comb, whole, truD, xAnd, xOr, xNot, xCmp2, xIsi, tyD, isi_NoneType_int, isi_NoneType_bool, isi_NoneType_tuple, isi_bool_int, isi_bool_bool, isi_bool_tuple, isi_int_int, isi_int_bool, isi_int_tuple, isi_str_int, isi_str_bool, isi_str_tuple, isi_tuple_int, isi_tuple_bool, isi_tuple_tuple, isi_list_int, isi_list_bool, isi_list_tuple, cm_le, cm_ge, cn1, cn2, cn3, cn4, bi_lenT, cm_ne, at20, at21, at10, comb_none, e8])]
  rw [seq_next (ρ1 := [.fz (.scr (ns.map .int)), .ow .own (HD cells p6 b6 t6), s2, .fz (.int w), .ow .own A, .fz T, s6, .fz (.int x), .fz (.int (x + y)), .un, s10, s11, s12, s13, s14]) (by simp [sCons, sSet, sRet, sNil, sIf, sSub, VE.tAnd, VE.tOr, VE.tNot, tCm, tE, xCmp, xIx, xBin, xBi, xOwn, xIte, xNeg, xTup, xLst, xCons, xNil, xACons, xANil, xVar, xC, Rs.bind, Rs.toF, Rs.of, Rf.of, deref, getSl, putI, VE.stI, mayStore, binD, binI, endF, outS, ixD, at40, at41, at42, at43, bi_len, bi_int, bi_abs, cm_eq, cm_lt, cm_gt, lend, lend1, atsOf, giveBack, findArg, comb, whole, truD, xAnd, xOr, xNot, xCmp2, xIsi, tyD, isi_NoneType_int, isi_NoneType_bool, isi_NoneType_tuple, isi_bool_int, isi_bool_bool, isi_bool_tuple, isi_int_int, isi_int_bool, isi_int_tuple, isi_str_int, isi_str_bool, isi_str_tuple, isi_tuple_int, isi_tuple_bool, isi_tuple_tuple, isi_list_int, isi_list_bool, isi_list_tuple, cm_le, cm_ge, cn1, cn2, cn3, cn4, bi_lenT, cm_ne, at20, at21, at10, comb_none, e9])]
  rw [seq_next e10, seq_next e11]
  exact ⟨_, rfl⟩
end LawP
end

section
set_option Elab.async false
set_option linter.all false
theorem PySem.Challenge.cw_alreadytold_k01_whole_ratios_holds : PySem.Challenge.rw_alreadytold_k01_whole_ratios.Holds := by
  exact LawP.ends 60 12 ⟨rfl, by decide, by decide⟩ (LawP.plain_at 5)
end
