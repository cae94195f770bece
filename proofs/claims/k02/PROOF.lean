import PyProof.Rows.All
import Wide.All
import OpenK.AllK
import Wide.FinOn
import HandS.ExcInit
import HandS.ExcField
import HandS.ForMost
import HandS.ForExc
import HandS.Wide
import HandS.Flow
import HandS.IsInst
import HandS.Gcd
import HandS.FStr
import HandS.TupAny
import HandS.Style
import HandS.CallSlots
import HandS.Defaults
import HandS.TryMany
import HandS.HeadHook4
import HandS.Walk
import KE.DataEq
import HandS.Text
import HandS.Rev
import HandS.DictComp
import HandS.GenYield
import HandS.GenList
import HandS.GenCall
import PyProof.StrOps2
import HandS.Head2
import HandS.Head3
import HandS.HeadWalk
import HandS.Codes
import PySem.Challenge.RW_alreadytold_k02_whole_wires_and_fillings
section
set_option Elab.async false
set_option linter.all false
set_option maxRecDepth 100000
/-! VA: an evaluator over the model's syntax trees, on plain data. -/
namespace VE
open PySem PySem.Spec PyProof.Rows L2

/-! ### data -/
inductive D where
  | non | bl (b : Bool) | int (i : Int) | str (s : Str) | tup (xs : List D) | lst (xs : List D)
  /-- a list that is read alone (the script, a list of the module's) -/
  | scr (xs : List D)
  | obj (c : Str) (fs : List (Str × D))
  /-- a written dict of one couple, read alone -/
  | dic (i j : Int)
  deriving Inhabited

mutual
def plainD : D → Bool
  | .tup xs => plainDs xs
  | .lst xs => plainDs xs
  | .scr xs => plainDs xs
  | .obj _ _ => false
  | .dic _ _ => false
  | _ => true
def plainDs : List D → Bool
  | [] => true
  | x :: xs => plainD x && plainDs xs
end
mutual
def toPy : D → PyData
  | .non => .none
  | .bl b => .bool b
  | .int i => .int i
  | .str s => .str s
  | .tup xs => .tuple (toPys xs)
  | .lst xs => .list (toPys xs)
  | .scr xs => .list (toPys xs)
  | .obj _ _ => .none
  | .dic _ _ => .none
def toPys : List D → List PyData
  | [] => []
  | x :: xs => toPy x :: toPys xs
end
def eqD (x y : D) : Bool := PyData.eqv (toPy x) (toPy y)
/-- both may be compared: no objects within, one of them not deep -/
def eqOk (x y : D) : Bool := plainD x && plainD y && decide (min (toPy x).depth (toPy y).depth ≤ 64)

def truD : D → Option Bool
  | .non => some false
  | .bl b => some b
  | .int i => some (i != 0)
  | .str y => if y.length ≤ sizeLine then some ((y.length : Int) != 0) else none
  | .tup xs => some (!xs.isEmpty)
  | .lst xs => some (!xs.isEmpty)
  | .scr xs => some (!xs.isEmpty)
  | .obj _ _ => none
  | .dic _ _ => none

def tyD : D → Option String
  | .non => some "NoneType"
  | .bl _ => some "bool"
  | .int _ => some "int"
  | .str _ => some "str"
  | .tup _ => some "tuple"
  | .lst _ => some "list"
  | .scr _ => none
  | .obj _ _ => none
  | .dic _ _ => some "dict"

/-! ### operators -/
def mulOk (i j : Int) : Bool := decide (i.natAbs.log2 + j.natAbs.log2 < 1000000)
def divOk (j : Int) : Bool := decide (0 < j) && decide (j.natAbs.log2 < 9000)
def binI (op : Operator) (i j : Int) : Option Int := match op with
  | .Add => some (i + j)
  | .Sub => some (i - j)
  | .Mult => if mulOk i j then some (i * j) else none
  | .FloorDiv => if divOk j then some (i / j) else none
  | .Mod => if decide (0 < j) then some (i % j) else none
  | .Pow => if decide (0 ≤ j) && decide (j ≤ 1000000) && decide (i.natAbs < 2 ^ 64) then some (i ^ j.toNat) else none
  | .LShift => if decide (0 ≤ j) && decide (j ≤ 1000000) && decide (i.natAbs < 2 ^ 64) then some (i * 2 ^ j.toNat) else none
  | .RShift => if decide (0 ≤ j) then some (i / 2 ^ j.toNat) else none
  | .BitAnd => some (Builtin.bitAnd i j)
  | .BitOr => some (Builtin.bitOr i j)
  | _ => none
def szOk (n : Nat) : Bool := decide (n ≤ sizeLine)
/-- a text so many times -/
def repS (x : Str) (k : Nat) : Str := ⟨(List.replicate k x.cps.toList).flatten.toArray⟩
/-- the value, and whether it is a new list -/
def binD (op : Operator) : D → D → Option (D × Bool)
  | .int i, .int j => (binI op i j).map fun z => (.int z, false)
  | .lst xs, .lst ys => (match op with
    | .Add => if szOk (xs.length + ys.length) then some (.lst (xs ++ ys), true) else none
    | _ => none)
  | .tup xs, .tup ys => (match op with
    | .Add => if szOk (xs.length + ys.length) then some (.tup (xs ++ ys), false) else none
    | _ => none)
  | .str x, .str y => (match op with
    | .Add => if szOk (x.length + y.length) then some (.str (x ++ y), false) else none
    | _ => none)
  | .lst xs, .int k => (match op with
    | .Mult => if szOk (xs.length * k.toNat) && decide (-(2 ^ 63) ≤ k) && decide (k < 2 ^ 63) then some (.lst (List.replicate k.toNat xs).flatten, true) else none
    | _ => none)
  | .str x, .int k => (match op with
    | .Mult => if szOk (x.length * k.toNat) && decide (-(2 ^ 63) ≤ k) && decide (k < 2 ^ 63) then some (.str (repS x k.toNat), false) else none
    | _ => none)
  | _, _ => none
def isNonD : D → Bool
  | .non => true
  | _ => false
def memD (x : D) (ys : List D) : Bool := ys.any fun z => eqD z x
/-- the sign that a text is -/
def signOf (x : D) : Option Nat := match x with
  | .str w => (match w.cps.toList with
    | [c] => some c
    | _ => none)
  | _ => none
def sameDic (x y : D) : Bool := match x, y with
  | .dic i j, .dic i' j' => decide (i = i') && decide (j = j')
  | _, _ => false
def cmpD (op : CmpOp) (x y : D) : Option Bool := match op with
  | .Eq => if eqOk x y then some (eqD x y) else if sameDic x y then some true else none
  | .NotEq => if eqOk x y then some (!eqD x y) else none
  | .Lt => (match x, y with
    | .int i, .int j => some (decide (i < j))
    | _, _ => none)
  | .LtE => (match x, y with
    | .int i, .int j => some (decide (i ≤ j))
    | _, _ => none)
  | .Gt => (match x, y with
    | .int i, .int j => some (decide (j < i))
    | _, _ => none)
  | .GtE => (match x, y with
    | .int i, .int j => some (decide (j ≤ i))
    | _, _ => none)
  | .Is => (match x, y with
    | _, .non => some (isNonD x)
    | .bl a, .bl b => some (decide (a = b))
    | _, _ => none)
  | .IsNot => (match x, y with
    | _, .non => some (!isNonD x)
    | .bl a, .bl b => some (!decide (a = b))
    | _, _ => none)
  | .In => (match y with
    | .lst ys => if eqOk x y then some (memD x ys) else none
    | .tup ys => if eqOk x y then some (memD x ys) else none
    | .str z => (signOf x).map fun c => decide (c ∈ z.cps.toList)
    | _ => none)
  | .NotIn => (match y with
    | .lst ys => if eqOk x y then some (!memD x ys) else none
    | .tup ys => if eqOk x y then some (!memD x ys) else none
    | .str z => (signOf x).map fun c => !decide (c ∈ z.cps.toList)
    | _ => none)
def ixD : D → D → Option D
  | .lst xs, .int i => atI xs i
  | .scr xs, .int i => atI xs i
  | .tup xs, .int i => atI xs i
  | .str z, .int i => if szOk z.length then (atI z.cps.toList i).map fun c => .str ⟨#[c]⟩ else none
  | _, _ => none
def cutX {α : Type} (xs : List α) (lo hi : Option Int) : List α := (xs.drop (HT.sIx xs.length 0 lo)).take (HT.sIx xs.length xs.length hi - HT.sIx xs.length 0 lo)
def cutD : D → Option Int → Option Int → Option (D × Bool)
  | .lst xs, lo, hi => some (.lst (cutX xs lo hi), true)
  | .tup xs, lo, hi => some (.tup (cutX xs lo hi), false)
  | .str z, lo, hi => if szOk z.length then some (.str (cutS z lo hi), false) else none
  | _, _, _ => none
def sumI : List D → Option (List Int)
  | [] => some []
  | .int i :: r => (sumI r).map (i :: ·)
  | _ :: _ => none
def allB : List D → Option (List Bool)
  | [] => some []
  | .bl i :: r => (allB r).map (i :: ·)
  | _ :: _ => none
/-- a built-in function or type, called -/
def biD (x : Str) (ds : List D) : Option (D × Bool) :=
  if x = "len" then (match ds with
    | [.lst xs] => some (.int xs.length, false)
    | [.scr xs] => some (.int xs.length, false)
    | [.tup xs] => some (.int xs.length, false)
    | [.str z] => if szOk z.length then some (.int z.length, false) else none
    | _ => none)
  else if x = "abs" then (match ds with
    | [.int i] => some (.int (if i < 0 then -i else i), false)
    | _ => none)
  else if x = "int" then (match ds with
    | [.int i] => some (.int i, false)
    | [.bl b] => some (.int (if b then 1 else 0), false)
    | _ => none)
  else if x = "str" then (match ds with
    | [.int i] => if decide (i.natAbs.log2 < 1920) then some (.str (toString i), false) else none
    | _ => none)
  else if x = "tuple" then (match ds with
    | [.lst xs] => some (.tup xs, false)
    | [.scr xs] => some (.tup xs, false)
    | [.tup xs] => some (.tup xs, false)
    | _ => none)
  else if x = "list" then (match ds with
    | [.lst xs] => some (.lst xs, true)
    | [.scr xs] => some (.lst xs, true)
    | [.tup xs] => some (.lst xs, true)
    | _ => none)
  else if x = "sum" then (match ds with
    | [.lst xs] => (sumI xs).map fun ns => (.int ns.sum, false)
    | _ => none)
  else if x = "any" then (match ds with
    | [.lst xs] => (allB xs).map fun bs => (.bl (bs.any id), false)
    | _ => none)
  else if x = "all" then (match ds with
    | [.lst xs] => (allB xs).map fun bs => (.bl (bs.all id), false)
    | _ => none)
  else if x = "max" then (match ds with
    | [.int i, .int j] => some (.int (if j > i then j else i), false)
    | _ => none)
  else if x = "min" then (match ds with
    | [.int i, .int j] => some (.int (if j < i then j else i), false)
    | _ => none)
  else none

/-- a built-in that is served: a function (true), a type (false) -/
def biK (x : Str) : Option Bool :=
  if (["len", "abs", "sum", "any", "all", "max", "min"] : List Str).contains x then some true
  else if (["int", "str", "tuple", "list"] : List Str).contains x then some false
  else none

/-! ### slots -/
inductive Md where
  | own | par | lck
  deriving DecidableEq
/-- a slot: not assigned; a value (a list in it is never changed again); a parameter that was so fixed; a list of its own -/
inductive Sl where
  | un | fz (d : D) | pz (d : D) | ow (m : Md) (d : D)
abbrev Ro := List Sl
/-- what an expression gives: the object of slot i; a value (f: a new list) -/
inductive Bv where
  | at (i : Nat) | va (d : D) (f : Bool)
inductive Rs (α : Type) where
  | stuck | ok (a : α) (ρ : Ro) | exc (c : Str) (fs : List (Str × D)) (ρ : Ro)
def Rs.bind {α β : Type} (r : Rs α) (k : α → Ro → Rs β) : Rs β := match r with
  | .stuck => .stuck
  | .ok a ρ => k a ρ
  | .exc c fs ρ => .exc c fs ρ
def Rs.of {α : Type} (o : Option α) (ρ : Ro) : Rs α := match o with
  | some a => .ok a ρ
  | none => .stuck
/-- how a statement ends -/
inductive Rf where
  | stuck | next (ρ : Ro) | ret (b : Bv) (ρ : Ro) | brk (ρ : Ro) | cnt (ρ : Ro) | exc (c : Str) (fs : List (Str × D)) (ρ : Ro)
/-- how a call ends; what stands behind in the parameters -/
inductive Cr where
  | stuck | ret (d : D) (f : Bool) (as : List Sl) | exc (c : Str) (fs : List (Str × D)) (as : List Sl)
/-- what a module's name is -/
inductive Gk where
  | no | free | fn | con (d : D) | bfn (id : String) | ex | gen
  deriving Inhabited
/-- where a parameter's value comes from, in a call with keywords -/
inductive KwSrc where
  | pos (i : Nat) | dfl (i : Nat) | kw (i : Nat)
def planL {α : Type} (z : α) (us its ws : List α) (pl : List KwSrc) : List α := pl.map fun
  | .pos i => (us[i]?).getD z
  | .dfl i => (its[i]?).getD z
  | .kw i => (ws[i]?).getD z
structure Mdl where
  glob : Str → Gk
  /-- an own function, all its parameters given -/
  call : Str → List Sl → Cr
  /-- what an own generator hands out, all its parameters given -/
  gen : Str → List D → Option (List D)
  /-- the defaults that fill up behind so many arguments -/
  dfl : Str → Nat → Option (List D)
  /-- an own exception's fields, by its arguments -/
  mkx : Str → List D → Option (List (Str × D))
  /-- is an error of the first class caught by the second name -/
  isx : Str → Str → Option Bool
  /-- may this field be read of an error of this class -/
  fok : Str → Str → Bool
  /-- a call with so many values and these keywords: the plan, all defaults -/
  kwp : Str → Nat → List Str → Option (List KwSrc × List D)

def getSl (ρ : Ro) (i : Nat) : Option D := match ρ[i]? with
  | some (.fz d) => some d
  | some (.pz d) => some d
  | some (.ow _ d) => some d
  | _ => none
def deref (ρ : Ro) : Bv → Option D
  | .at i => getSl ρ i
  | .va d _ => some d
/-- the value is handed on as a whole: a list of a slot's own is fixed -/
def whole (b : Bv) (ρ : Ro) : Rs D := match b with
  | .va d _ => .ok d ρ
  | .at i => (match ρ[i]? with
    | some (.fz d) => .ok d ρ
    | some (.pz d) => .ok d ρ
    | some (.ow .own d) => .ok d (ρ.set i (.fz d))
    | some (.ow .par d) => .ok d (ρ.set i (.pz d))
    | _ => .stuck)
def ixN? (N : List Str) (x : Str) : Option Nat := N.findIdx? (· == x)
def nameOk (x : Str) : Bool := !(x == ("__debug__" : Str)) && !(x == ("__classdict__" : Str)) && !(x == ("__name__" : Str))
def visK (sc : Scope) (x : Str) : Bool := nameOk x && match sc.names.lookup x with
  | some .local => true
  | some .cell => true
  | some .free => true
  | _ => false
def locK (sc : Scope) (x : Str) : Bool := match sc.names.lookup x with
  | some .local => true
  | some .cell => true
  | _ => false
def gloK (sc : Scope) (x : Str) : Bool := nameOk x && match sc.names.lookup x with
  | some .globalImplicit => true
  | _ => false
def mayStore : Option Sl → Bool
  | some .un => true
  | some (.fz _) => true
  | some (.ow .own _) => true
  | _ => false
def store (N : List Str) (sc : Scope) (x : Str) (v : Sl) (ρ : Ro) : Option Ro :=
  match ixN? N x with
  | none => none
  | some i => if locK sc x && mayStore ρ[i]? then some (ρ.set i v) else none

/-! ### the evaluator, one step -/
structure Ev where
  e : Scope → Expr → Ro → Rs Bv
  t : Scope → Expr → Ro → Rs Bool
  es : Scope → List Expr → Ro → Rs (List D)
  as : Scope → List Expr → Ro → Rs (List Bv)
  s : Scope → Stmt → Ro → Rf
  ss : Scope → List Stmt → Ro → Rf
def Ev.bot : Ev := ⟨fun _ _ _ => .stuck, fun _ _ _ => .stuck, fun _ _ _ => .stuck, fun _ _ _ => .stuck, fun _ _ _ => .stuck, fun _ _ _ => .stuck⟩

def notStar : Expr → Bool
  | .Starred .. => false
  | _ => true
def isSlice : Expr → Bool
  | .Slice .. => true
  | _ => false
/-- is the test of this expression its value's truth -/
def plainTest : Expr → Bool
  | .UnaryOp .Not _ _ => false
  | .BoolOp .. => false
  | .IfExp .. => false
  | .Compare .. => false
  | _ => true
def isSetE : Expr → Bool
  | .Set .. => true
  | _ => false
def isComp : Expr → Bool
  | .ListComp .. => true
  | .SetComp .. => true
  | .DictComp .. => true
  | _ => false

/-- the class that isinstance asks: built-in types alone -/
def isiD (t : String) : List Str → Option Bool
  | [] => some false
  | x :: r => (kitB t x.toString).bind fun b => if b then some true else isiD t r
def typeNames : List Str := ["int", "bool", "str", "tuple", "list", "dict"]
def clsOf : Expr → Option (List Str)
  | .Name x _ => if typeNames.contains x then some [x] else none
  | .Tuple es _ _ => es.mapM fun e => match e with
    | .Name x _ => if typeNames.contains x then some x else none
    | _ => none
  | _ => none

/-- the callee's parameters: what is handed over -/
def lend1 (ρ : Ro) : Bv → Option Sl
  | .va d _ => some (.fz d)
  | .at i => (match ρ[i]? with
    | some (.fz d) => some (.fz d)
    | some (.pz d) => some (.fz d)
    | some (.ow .own d) => some (.ow .par d)
    | some (.ow .par d) => some (.ow .par d)
    | some (.ow .lck d) => some (.ow .lck d)
    | _ => none)
def atsOf (ρ : Ro) : List Bv → List Nat
  | [] => []
  | .at i :: r => (match ρ[i]? with
    | some (.ow _ _) => i :: atsOf ρ r
    | _ => atsOf ρ r)
  | .va _ _ :: r => atsOf ρ r
def lend (ρ : Ro) (bs : List Bv) : Option (List Sl) := if decide (atsOf ρ bs).Nodup then bs.mapM (lend1 ρ) else none
def findArg (p : Nat) : List Bv → List Sl → Option Sl
  | .at q :: bs, a :: as => if q = p then some a else findArg p bs as
  | .va _ _ :: bs, _ :: as => findArg p bs as
  | _, _ => none
/-- what a slot is behind a call that it was lent to -/
def comb : Sl → Option Sl → Sl
  | .ow m _, some (.ow _ d) => .ow m d
  | .ow .own _, some (.pz d) => .fz d
  | .ow .par _, some (.pz d) => .pz d
  | s, _ => s
def giveBack (bs : List Bv) (as : List Sl) (ρ : Ro) : Ro := ρ.mapIdx fun p s => comb s (findArg p bs as)

def takeIdx (n : Nat) : List Nat → Bool := fun l => l.all (· < n)

end VE
end

section
set_option Elab.async false
set_option linter.all false
set_option maxRecDepth 100000
/-! VB: the evaluator's steps. -/
namespace VE
open PySem PySem.Spec PyProof.Rows L2

/-! ### targets -/
def asgNames (N : List Str) (sc : Scope) : List Expr → List D → Ro → Option Ro
  | [], [], ρ => some ρ
  | .Name x _ :: es, d :: ds, ρ => (store N sc x (.fz d) ρ).bind fun ρ1 => asgNames N sc es ds ρ1
  | _, _, _ => none
def asgT (N : List Str) (sc : Scope) (tg : Expr) (d : D) (ρ : Ro) : Option Ro := match tg with
  | .Name x _ => store N sc x (.fz d) ρ
  | .Tuple es _ _ => (match d with
    | .tup ds => asgNames N sc es ds ρ
    | _ => none)
  | _ => none
def isTupE : Expr → Bool
  | .Tuple .. => true
  | _ => false
/-! ### loops -/
def lock1 (i : Nat) (ρ : Ro) : Ro := match ρ[i]? with
  | some (.ow _ d) => ρ.set i (.ow .lck d)
  | _ => ρ
def unlock1 (i : Nat) (m : Md) (ρ : Ro) : Ro := match ρ[i]? with
  | some (.ow .lck d) => ρ.set i (.ow m d)
  | _ => ρ
def lockAll : List (Nat × Md) → Ro → Ro
  | [], ρ => ρ
  | (i, _) :: r, ρ => lockAll r (lock1 i ρ)
def unlockAll : List (Nat × Md) → Ro → Ro
  | [], ρ => ρ
  | (i, m) :: r, ρ => unlock1 i m (unlockAll r ρ)
def Rf.map (f : Ro → Ro) : Rf → Rf
  | .stuck => .stuck
  | .next ρ => .next (f ρ)
  | .ret b ρ => .ret b (f ρ)
  | .brk ρ => .brk (f ρ)
  | .cnt ρ => .cnt (f ρ)
  | .exc c fs ρ => .exc c fs (f ρ)
def loopF (asg : D → Ro → Option Ro) (body : Ro → Rf) : List D → Ro → Rf
  | [], ρ => .next ρ
  | x :: xs, ρ => (match asg x ρ with
    | none => .stuck
    | some ρ1 => (match body ρ1 with
      | .next ρ2 => loopF asg body xs ρ2
      | .cnt ρ2 => loopF asg body xs ρ2
      | .brk ρ2 => .next ρ2
      | r => r))
def loopW (test : Ro → Rs Bool) (body : Ro → Rf) : Nat → Ro → Rf
  | 0, _ => .stuck
  | k + 1, ρ => (match test ρ with
    | .stuck => .stuck
    | .exc c fs ρ1 => .exc c fs ρ1
    | .ok b ρ1 => if b then (match body ρ1 with
      | .next ρ2 => loopW test body k ρ2
      | .cnt ρ2 => loopW test body k ρ2
      | .brk ρ2 => .next ρ2
      | r => r) else .next ρ1)
def wipeR : List Nat → Ro → Ro
  | [], ρ => ρ
  | i :: is, ρ => (wipeR is ρ).set i .un
/-- the slots of a block's own names as they were -/
def unwipe (old : Ro) : List Nat → Ro → Ro
  | [], ρ => ρ
  | i :: is, ρ => (unwipe old is ρ).set i (old.getD i .un)
def loopC (idx : List Nat) (asg : D → Ro → Option Ro) (test : Ro → Rs Bool) (elt : Ro → Rs Bv) : List D → List D → Ro → Rs (List D)
  | [], acc, ρ => .ok acc ρ
  | x :: xs, acc, ρ => (match asg x ρ with
    | none => .stuck
    | some ρ1 => (match test ρ1 with
      | .ok b ρ2 => if b then (match elt ρ2 with
          | .ok v ρ3 => (match whole v ρ3 with
            | .ok d ρ4 => if decide (acc.length < sizeLine) then loopC idx asg test elt xs (acc ++ [d]) (wipeR idx ρ4) else .stuck
            | _ => .stuck)
          | _ => .stuck)
        else loopC idx asg test elt xs acc (wipeR idx ρ2)
      | _ => .stuck))
def flatSl : Option Sl → Bool
  | some .un => true
  | some (.fz _) => true
  | _ => false

def Rs.toF {α : Type} (r : Rs α) (k : α → Ro → Rf) : Rf := match r with
  | .stuck => .stuck
  | .ok a ρ => k a ρ
  | .exc c fs ρ => .exc c fs ρ
def Rf.of (o : Option Ro) : Rf := match o with
  | some ρ => .next ρ
  | none => .stuck
def isAS : Operator → Bool
  | .Add => true
  | .Sub => true
  | _ => false
def intsD : List D → Option (List Int)
  | [] => some []
  | .int i :: r => (intsD r).map (i :: ·)
  | _ :: _ => none
def rngD (lo : Int) (n : Nat) : List D := (List.range n).map fun (k : Nat) => D.int (lo + (k : Int))
def small62 (i : Int) : Bool := decide (-(2 ^ 62) ≤ i) && decide (i < 2 ^ 62)
def rangeD : List Int → Option (List D)
  | [j] => if small62 j then some (rngD 0 j.toNat) else none
  | [i, j] => if small62 i && small62 j then some (rngD i (j - i).toNat) else none
  | _ => none
def enumD (ds : List D) : List D := ((List.range ds.length).zip ds).map fun p => D.tup [.int (p.1 : Int), p.2]
def zipD (ds es : List D) : List D := (ds.zip es).map fun p => D.tup [p.1, p.2]
def toStrD : D → Option Str
  | .str y => if szOk y.length then some y else none
  | .int i => if decide (i.natAbs.log2 < 1920) then some (toString i) else none
  | _ => none

section
variable (M : Mdl) (N : List Str)
abbrev isFree (sc : Scope) (f : Str) : Bool := gloK sc f && (match M.glob f with | .free => true | _ => false)

def partS (E : Ev) (sc : Scope) (o : Option Expr) (ρ : Ro) : Rs (Option Int) := match o with
  | none => .ok none ρ
  | some e => (E.e sc e ρ).bind fun b ρ1 => (match deref ρ1 b with
    | some (.int i) => .ok (some i) ρ1
    | _ => .stuck)
def joinL (E : Ev) (sc : Scope) : List Expr → Str → Ro → Rs Str
  | [], acc, ρ => .ok acc ρ
  | e :: r, acc, ρ => (E.e sc e ρ).bind fun b ρ1 => (match deref ρ1 b with
    | some (.str y) => if szOk (acc ++ y).length then joinL E sc r (acc ++ y) ρ1 else .stuck
    | _ => .stuck)
/-- a list alone (enumerate, zip) -/
def walkL (b : Bv) (ρ : Ro) : Option (List D × List (Nat × Md)) := match b with
  | .va (.lst xs) _ => some (xs, [])
  | .va _ _ => none
  | .at i => (match ρ[i]? with
    | some (.fz (.lst xs)) => some (xs, [])
    | some (.pz (.lst xs)) => some (xs, [])
    | some (.ow m (.lst xs)) => some (xs, [(i, m)])
    | _ => none)
/-- a list to be walked: its items; the slot that is locked meanwhile -/
def walkB (b : Bv) (ρ : Ro) : Option (List D × List (Nat × Md)) := match b with
  | .va (.tup xs) _ => some (xs, [])
  | .va (.scr xs) _ => some (xs, [])
  | .va (.str z) _ => some (z.cps.toList.map fun c => .str ⟨#[c]⟩, [])
  | b => walkL b ρ
inductive Ik where
  | gen | rng1 (a : Expr) | rng2 (a b : Expr) | enu (a : Expr) | zip (a b : Expr) | rev (a : Expr)
/-- how the source of a walk is written -/
def iterK (sc : Scope) (tg it : Expr) : Ik := match it with
  | .Call (.Name f _) [a] [] _ => if isFree M sc f && notStar a then (if f = "range" then .rng1 a else if f = "enumerate" then (if isTupE tg then .enu a else .gen) else if f = "reversed" then .rev a else .gen) else .gen
  | .Call (.Name f _) [a, b] [] _ => if isFree M sc f && (notStar a && notStar b) then (if f = "range" then .rng2 a b else if f = "zip" then (if isTupE tg then .zip a b else .gen) else .gen) else .gen
  | _ => .gen
def iterS (E : Ev) (sc : Scope) (tg : Expr) (it : Expr) (ρ : Ro) : Rs (List D × List (Nat × Md)) := match iterK M sc tg it with
  | .gen => (E.e sc it ρ).bind fun b ρ1 => Rs.of (walkB b ρ1) ρ1
  | .rng1 a => (E.e sc a ρ).bind fun b ρ1 => (match deref ρ1 b with
    | some (.int j) => if small62 j then .ok (rngD 0 j.toNat, []) ρ1 else .stuck
    | _ => .stuck)
  | .rng2 a b => (E.e sc a ρ).bind fun x ρ1 => (E.e sc b ρ1).bind fun y ρ2 => (match deref ρ2 x, deref ρ2 y with
    | some (.int i), some (.int j) => if small62 i && small62 j then .ok (rngD i (j - i).toNat, []) ρ2 else .stuck
    | _, _ => .stuck)
  | .enu a => (E.e sc a ρ).bind fun b ρ1 => Rs.of ((walkL b ρ1).map fun w => (enumD w.1, w.2)) ρ1
  | .rev a => (E.e sc a ρ).bind fun b ρ1 => Rs.of ((walkL b ρ1).map fun w => (w.1.reverse, w.2)) ρ1
  | .zip a b => (E.e sc a ρ).bind fun x ρ1 => (E.e sc b ρ1).bind fun y ρ2 => Rs.of ((walkL x ρ2).bind fun w => (walkL y ρ2).bind fun u => if decide ((w.2 ++ u.2).map (·.1)).Nodup then some (zipD w.1 u.1, w.2 ++ u.2) else none) ρ2

def ownOf (N : List Str) (scope : Scope) : List Str := (scope.names.filterMap fun p => match p.2 with | .local => some p.1 | .cell => some p.1 | _ => none).filter fun x => (ixN? N x).isSome
/-- a target's names, each with a place and a local -/
def nmOk (N : List Str) (sc : Scope) : Expr → Bool
  | .Name x _ => (ixN? N x).isSome && locK sc x
  | _ => false
def tgOk (N : List Str) (sc : Scope) : Expr → Bool
  | .Name x _ => (ixN? N x).isSome && locK sc x
  | .Tuple es _ _ => es.all (nmOk N sc)
  | _ => false
def testS (E : Ev) (sc : Scope) (ifs : List Expr) (ρ : Ro) : Rs Bool := match ifs with
  | [] => .ok true ρ
  | [c] => E.t sc c ρ
  | _ => .stuck
def compS (E : Ev) (sc : Scope) (elt tg it : Expr) (ifs : List Expr) (scope : Scope) (ρ : Ro) : Rs Bv :=
  match (ownOf N scope).mapM (ixN? N) with
  | none => .stuck
  | some idx =>
    if blkC N sc scope ((ownOf N scope).zip idx) && tgOk N scope tg && !isSetE it && decide (ifs.length ≤ 1) then
      (iterS M E sc tg it ρ).bind fun w ρ1 => if idx.all (fun i => flatSl (lockAll w.2 ρ1)[i]?) then
        (match loopC idx (asgT N scope tg) (testS E scope ifs) (E.e scope elt) w.1 [] (wipeR idx (lockAll w.2 ρ1)) with
        | .ok ds ρ2 => .ok (.va (.lst ds) true) (unlockAll w.2 (unwipe (lockAll w.2 ρ1) idx ρ2))
        | _ => .stuck) else .stuck
    else .stuck

/-- tuple(reversed(a)), list(g(..)) -/
inductive Sk where
  | no | rev (a : Expr) | gen (g : Str) (es : List Expr)
def isGenN (sc : Scope) (f : Str) : Bool := gloK sc f && (match M.glob f with | .gen => true | _ => false)
def specK (sc : Scope) (f : Str) (args : List Expr) : Sk := match args with
  | [.Call (.Name g _) (a :: r) [] _] => if f = "tuple" then (if g = "reversed" then (match r with
      | [] => if isFree M sc g && notStar a then .rev a else .no
      | _ :: _ => .no) else .no)
    else if f = "list" then (if isGenN M sc g && (a :: r).all notStar then .gen g (a :: r) else .no) else .no
  | _ => .no
def callS (E : Ev) (sc : Scope) (f : Str) (args : List Expr) (ρ : Ro) : Rs Bv :=
  if gloK sc f && args.all notStar then (match M.glob f with
    | .fn => (match M.dfl f args.length with
      | none => .stuck
      | some ds => (E.as sc args ρ).bind fun bs ρ1 => (match lend ρ1 bs with
        | none => .stuck
        | some sls => (match M.call f (sls ++ ds.map .fz) with
          | .stuck => .stuck
          | .ret d b as => .ok (.va d b) (giveBack bs as ρ1)
          | .exc c fs as => .exc c fs (giveBack bs as ρ1))))
    | .bfn id => if id = "math.gcd" then (E.as sc args ρ).bind fun bs ρ1 => (match bs.mapM (deref ρ1) with
        | some [.int a, .int b] => .ok (.va (.int ((Nat.gcd a.natAbs b.natAbs : Nat) : Int)) false) ρ1
        | _ => .stuck) else .stuck
    | .free => if f = "isinstance" then (match args with
        | [a, c] => (match clsOf c with
          | some xs => if xs.all (fun x => isFree M sc x) && decide (xs.length ≤ 64) && notStar a && notStar c then (E.e sc a ρ).bind fun b ρ1 => Rs.of ((((deref ρ1 b).bind tyD).bind fun t => isiD t xs).map fun r => Bv.va (.bl r) false) ρ1 else .stuck
          | none => .stuck)
        | _ => .stuck)
      else (match specK M sc f args with
      | .rev a => (E.e sc a ρ).bind fun b ρ1 => (match deref ρ1 b with
        | some (.lst xs) => if szOk xs.length then .ok (.va (.tup xs.reverse) false) ρ1 else .stuck
        | _ => .stuck)
      | .gen g es => (match E.es sc es ρ with
        | .ok ds ρ1 => (match M.gen g ds with
          | some ys => .ok (.va (.lst ys) true) ρ1
          | none => .stuck)
        | _ => .stuck)
      | .no => match biK f with
        | none => .stuck
        | some _ => (E.as sc args ρ).bind fun bs ρ1 => Rs.of (((bs.mapM (deref ρ1)).bind (biD f)).map fun z => Bv.va z.1 z.2) ρ1)
    | _ => .stuck)
  else .stuck

/-- the keywords' values -/
def kwE (E : Ev) (sc : Scope) : List Keyword → Ro → Rs (List D)
  | [], ρ => .ok [] ρ
  | kw :: r, ρ => (E.e sc kw.value ρ).bind fun b ρ1 => (whole b ρ1).bind fun d ρ2 => (kwE E sc r ρ2).bind fun ds ρ3 => .ok (d :: ds) ρ3
/-- a call with keywords: all values fixed -/
def kwS (E : Ev) (sc : Scope) (f : Str) (args : List Expr) (kws : List Keyword) (ρ : Ro) : Rs Bv :=
  if gloK sc f && args.all notStar then (match M.glob f with
    | .fn => (match kws.mapM (·.arg) with
      | none => .stuck
      | some ks => (match M.kwp f args.length ks with
        | none => .stuck
        | some (pl, dfs) => (E.es sc args ρ).bind fun ds ρ1 => (kwE E sc kws ρ1).bind fun es ρ2 => if decide (ds.length = args.length) && decide (es.length = ks.length) then (match M.call f ((planL .non ds dfs es pl).map .fz) with
          | .stuck => .stuck
          | .ret d b as => .ok (.va d b) ρ2
          | .exc c fs as => .exc c fs ρ2) else .stuck))
    | _ => .stuck)
  else .stuck

/-- the list of slot i grows -/
def appS (E : Ev) (sc : Scope) (a : Expr) (i : Nat) (ρ1 : Ro) : Rs Bv := match ρ1[i]? with
  | some (.ow _ (.lst _)) => (E.e sc a ρ1).bind fun v ρ2 => (whole v ρ2).bind fun d ρ3 => (match ρ3[i]? with
    | some (.ow md (.lst xs)) => if decide (md ≠ .lck) && decide (xs.length < sizeLine) then .ok (.va .non false) (ρ3.set i (.ow md (.lst (xs ++ [d])))) else .stuck
    | _ => .stuck)
  | _ => .stuck

/-- a written int -/
def intC : Expr → Option Int
  | .Constant (.int i) _ _ => some i
  | _ => none
def dictK (ks : List (Option Expr)) (vs : List Expr) : Option (Int × Int) := match ks, vs with
  | [some k], [v] => (intC k).bind fun i => (intC v).map fun j => (i, j)
  | _, _ => none
/-- the list of slot i loses its last -/
def popS (i : Nat) (ρ : Ro) : Rs Bv := match ρ[i]? with
  | some (.ow md (.lst xs)) => if md ≠ .lck then (match xs[xs.length - 1]? with
    | some d => .ok (.va d false) (ρ.set i (.ow md (.lst xs.dropLast)))
    | none => .stuck) else .stuck
  | _ => .stuck
def stepE (E : Ev) (sc : Scope) (e : Expr) (ρ : Ro) : Rs Bv := match e with
  | .Name x _ =>
    if visK sc x then (match ixN? N x with
      | none => .stuck
      | some i => (match ρ[i]? with
        | some (.fz d) => .ok (.va d false) ρ
        | some (.pz d) => .ok (.va d false) ρ
        | some (.ow _ _) => .ok (.at i) ρ
        | _ => .stuck))
    else if gloK sc x then (match M.glob x with
      | .con d => .ok (.va d false) ρ
      | _ => .stuck)
    else .stuck
  | .Constant c _ _ => (match c with
    | .int i => .ok (.va (.int i) false) ρ
    | .bool b => .ok (.va (.bl b) false) ρ
    | .none => .ok (.va .non false) ρ
    | .str s => .ok (.va (.str s) false) ρ
    | _ => .stuck)
  | .BinOp a op b _ => (E.e sc a ρ).bind fun x ρ1 => (E.e sc b ρ1).bind fun y ρ2 =>
      Rs.of ((deref ρ2 x).bind fun dx => (deref ρ2 y).bind fun dy => (binD op dx dy).map fun z => Bv.va z.1 z.2) ρ2
  | .UnaryOp op a _ => (match op with
    | .USub => (E.e sc a ρ).bind fun x ρ1 => (match deref ρ1 x with
      | some (.int i) => .ok (.va (.int (-i)) false) ρ1
      | _ => .stuck)
    | .Not => (E.e sc a ρ).bind fun x ρ1 => Rs.of (((deref ρ1 x).bind truD).map fun b => Bv.va (.bl (!b)) false) ρ1
    | _ => .stuck)
  | .BoolOp op vs p => (match vs with
    | [a] => E.e sc a ρ
    | a :: b :: r => (E.e sc a ρ).bind fun x ρ1 => (match (deref ρ1 x).bind truD with
      | none => .stuck
      | some k => (match op with
        | .And => if k then E.e sc (.BoolOp .And (b :: r) p) ρ1 else .ok x ρ1
        | .Or => if k then .ok x ρ1 else E.e sc (.BoolOp .Or (b :: r) p) ρ1))
    | [] => .stuck)
  | .IfExp c a b _ => (E.t sc c ρ).bind fun k ρ1 => if k then E.e sc a ρ1 else E.e sc b ρ1
  | .Compare a ops bs _ => (match ops, bs with
    | [op], [b] => if behindInMarks op b then .stuck else (E.e sc a ρ).bind fun x ρ1 => (E.e sc b ρ1).bind fun y ρ2 =>
        Rs.of ((deref ρ2 x).bind fun dx => (deref ρ2 y).bind fun dy => (cmpD op dx dy).map fun z => Bv.va (.bl z) false) ρ2
    | [op, op'], [b, c] => if behindInMarks op b || behindInMarks op' c then .stuck else (E.e sc a ρ).bind fun x ρ1 => (E.e sc b ρ1).bind fun y ρ2 =>
        (match (deref ρ2 x).bind fun dx => (deref ρ2 y).bind fun dy => cmpD op dx dy with
        | none => .stuck
        | some k => if k then (E.e sc c ρ2).bind fun z ρ3 =>
            Rs.of ((deref ρ3 y).bind fun dy => (deref ρ3 z).bind fun dz => (cmpD op' dy dz).map fun r => Bv.va (.bl r) false) ρ3
          else .ok (.va (.bl false) false) ρ2)
    | _, _ => .stuck)
  | .Tuple es _ _ => (E.es sc es ρ).bind fun ds ρ1 => if szOk ds.length then .ok (.va (.tup ds) false) ρ1 else .stuck
  | .Dict ks vs _ => (match dictK ks vs with
    | some (i, j) => .ok (.va (.dic i j) false) ρ
    | none => .stuck)
  | .List es _ => (E.es sc es ρ).bind fun ds ρ1 => if szOk ds.length then .ok (.va (.lst ds) true) ρ1 else .stuck
  | .Subscript a s _ => (match s with
    | .Slice lo hi st _ => (match st with
      | none => (E.e sc a ρ).bind fun x ρ1 => (partS E sc lo ρ1).bind fun l ρ2 => (partS E sc hi ρ2).bind fun h ρ3 =>
          Rs.of ((deref ρ3 x).bind fun dx => (cutD dx l h).map fun z => Bv.va z.1 z.2) ρ3
      | some _ => .stuck)
    | _ => (E.e sc a ρ).bind fun x ρ1 => (E.e sc s ρ1).bind fun y ρ2 =>
        Rs.of ((deref ρ2 x).bind fun dx => (deref ρ2 y).bind fun dy => (ixD dx dy).map fun z => Bv.va z false) ρ2)
  | .FormattedValue v c sp _ => (match sp with
    | none => if c = -1 then (E.e sc v ρ).bind fun x ρ1 => Rs.of (((deref ρ1 x).bind toStrD).map fun y => Bv.va (.str y) false) ρ1 else .stuck
    | some _ => .stuck)
  | .JoinedStr vs _ => (match vs with
    | a :: b :: r => (joinL E sc (a :: b :: r) Str.empty ρ).bind fun w ρ1 => .ok (.va (.str w) false) ρ1
    | _ => .stuck)
  | .ListComp elt gs scope _ => (match gs with
    | [⟨tg, it, ifs, 0⟩] => compS M N E sc elt tg it ifs scope ρ
    | _ => .stuck)
  | .Call fn args kws p => (match fn with
    | .Name f _ => (match kws with
      | [] => (match args with
        | [] => .stuck
        | _ :: _ => callS M E sc f args ρ)
      | _ :: _ => (match args with
        | [] => .stuck
        | _ :: _ => kwS M E sc f args kws ρ))
    | .Attribute o m ap => (match o, kws, args with
      | .Name x px, [], [a] => if m = "append" then (if notStar a && (ap.endLine == p.line) then (E.e sc (.Name x px) ρ).bind fun x ρ1 => (match x with
          | .at i => appS E sc a i ρ1
          | _ => .stuck) else .stuck) else .stuck
      | .Name x px, [], [] => if m = "pop" then (if ap.endLine == p.line then (E.e sc (.Name x px) ρ).bind fun x ρ1 => (match x with
          | .at i => popS i ρ1
          | _ => .stuck) else .stuck) else .stuck
      | _, _, _ => .stuck)
    | _ => .stuck)
  | _ => .stuck

def stepT (E : Ev) (sc : Scope) (e : Expr) (ρ : Ro) : Rs Bool := match e with
  | .UnaryOp .Not a _ => (E.t sc a ρ).bind fun b ρ1 => .ok (!b) ρ1
  | .BoolOp op vs p => (match vs with
    | [a] => E.t sc a ρ
    | a :: b :: r => (E.t sc a ρ).bind fun k ρ1 => (match op with
      | .And => if k then E.t sc (.BoolOp .And (b :: r) p) ρ1 else .ok false ρ1
      | .Or => if k then .ok true ρ1 else E.t sc (.BoolOp .Or (b :: r) p) ρ1)
    | [] => .stuck)
  | .IfExp .. => .stuck
  | .Compare a ops bs p => (stepE M N E sc (.Compare a ops bs p) ρ).bind fun x ρ1 => (match x with
    | .va (.bl b) _ => .ok b ρ1
    | _ => .stuck)
  | e => (E.e sc e ρ).bind fun x ρ1 => Rs.of ((deref ρ1 x).bind truD) ρ1
def stepEs (E : Ev) (sc : Scope) (es : List Expr) (ρ : Ro) : Rs (List D) := match es with
  | [] => .ok [] ρ
  | e :: r => if notStar e then (E.e sc e ρ).bind fun b ρ1 => (whole b ρ1).bind fun d ρ2 => (E.es sc r ρ2).bind fun ds ρ3 => .ok (d :: ds) ρ3 else .stuck
def stepAs (E : Ev) (sc : Scope) (es : List Expr) (ρ : Ro) : Rs (List Bv) := match es with
  | [] => .ok [] ρ
  | e :: r => if notStar e then (E.e sc e ρ).bind fun b ρ1 => (E.as sc r ρ1).bind fun bs ρ3 => .ok ((match b with | .at i => .at i | .va d _ => .va d false) :: bs) ρ3 else .stuck

/-- a store of what an expression gave -/
def putB (sc : Scope) (x : Str) (b : Bv) (ρ : Ro) : Rf := match b with
  | .va d true => Rf.of (store N sc x (.ow .own d) ρ)
  | .va d false => Rf.of (store N sc x (.fz d) ρ)
  | .at i => (whole (.at i) ρ).toF fun d ρ1 => Rf.of (store N sc x (.fz d) ρ1)
/-- a, b = x, y by swapped stores -/
def parC (N : List Str) (sc : Scope) (x : Str) (px : Pos) (y : Str) (py : Pos) (a b : Expr) : Bool :=
  decide (x ≠ y) && (match sc.names.lookup x with | some .local => true | _ => false) && (match sc.names.lookup y with | some .local => true | _ => false) && (ixN? N x).isSome && (ixN? N y).isSome && (py.line == px.line) && notStar a && notStar b &&
    !([a, b].all (foldedForSure 8)) && !([a, b].all (constantsAlone 8))
def parS (N : List Str) (E : Ev) (sc : Scope) (es vs : List Expr) (ρ : Ro) : Rf := match es, vs with
  | [.Name x px, .Name y py], [a, b] => if parC N sc x px y py a b then (E.es sc [a, b] ρ).toF fun ds ρ1 => (match ds with
      | [d, e] => Rf.of ((store N sc x (.fz d) ρ1).bind fun ρ2 => store N sc y (.fz e) ρ2)
      | _ => .stuck) else .stuck
  | _, _ => .stuck
/-- what an except suite makes of the error's fields -/
def sufA (M : Mdl) (x : Str) (fs : List (Str × D)) (n : Str) : Expr → Option D
  | .Constant c _ _ => (match c with
    | .int i => some (.int i)
    | .bool b => some (.bl b)
    | .none => some .non
    | .str s => some (.str s)
    | _ => none)
  | .Attribute (.Name m _) f _ => if m = n then (if M.fok x f then fs.lookup f else none) else none
  | _ => none
def sufL (M : Mdl) (x : Str) (fs : List (Str × D)) (n : Str) : List Expr → Option (List D)
  | [] => some []
  | e :: r => if notStar e then (sufA M x fs n e).bind fun d => (sufL M x fs n r).map (d :: ·) else none
def sufE (M : Mdl) (x : Str) (fs : List (Str × D)) (n : Str) (e : Expr) : Option D := match e with
  | .Tuple es _ _ => (sufL M x fs n es).bind fun ds => if szOk ds.length then some (.tup ds) else none
  | .List es _ => (sufL M x fs n es).bind fun ds => if szOk ds.length then some (.lst ds) else none
  | e => sufA M x fs n e
def sufS (M : Mdl) (N : List Str) (sc : Scope) (x : Str) (fs : List (Str × D)) (n : Str) (st : Stmt) (ρ : Ro) : Rf := match st with
  | .Pass _ => .next ρ
  | .Return none _ => .ret (.va .non false) ρ
  | .Return (some e) _ => (match sufE M x fs n e with
    | some d => .ret (.va d false) ρ
    | none => .stuck)
  | .Assign [.Name y _] e _ => if decide (y ≠ n) && !isComp e then (match sufE M x fs n e with
    | some d => Rf.of (store N sc y (.fz d) ρ)
    | none => .stuck) else .stuck
  | _ => .stuck
def stepS (E : Ev) (sc : Scope) (st : Stmt) (ρ : Ro) : Rf := match st with
  | .Assign [tg] v _ => (match tg with
    | .Name x _ => if (ixN? N x).isSome && locK sc x then (match v with
      | .ListComp elt [⟨tg, it, ifs, 0⟩] scope _ => (compS M N E sc elt tg it ifs scope ρ).toF fun b ρ1 => putB N sc x b ρ1
      | v => if isComp v then .stuck else (E.e sc v ρ).toF fun b ρ1 => putB N sc x b ρ1) else .stuck
    | .Tuple es _ _ => (match v with
      | .Tuple vs _ _ => parS N E sc es vs ρ
      | v => if es.all (nmOk N sc) && !isComp v then (E.e sc v ρ).toF fun b ρ1 => (whole b ρ1).toF fun d ρ2 => Rf.of (asgT N sc tg d ρ2) else .stuck)
    | .Subscript o ix _ => if isComp v || isSlice ix then .stuck else (E.e sc v ρ).toF fun b ρ1 => (whole b ρ1).toF fun d ρ2 => (E.e sc o ρ2).toF fun t ρ3 => (match t with
      | .at i => (E.e sc ix ρ3).toF fun j ρ4 => (match deref ρ4 j, ρ4[i]? with
        | some (.int k), some (.ow md (.lst xs)) => (match ixN xs.length k with
          | some n => if md ≠ .lck then .next (ρ4.set i (.ow md (.lst (xs.set n d)))) else .stuck
          | none => .stuck)
        | _, _ => .stuck)
      | _ => .stuck)
    | _ => .stuck)
  | .AugAssign (.Name x _) op v _ => if locK sc x && isAS op then (match ixN? N x with
    | none => .stuck
    | some i => (match ρ[i]? with
      | some (.fz (.int a)) => (E.e sc v ρ).toF fun b ρ1 => (match deref ρ1 b with
        | some (.int k) => (match op with
          | .Add => Rf.of (store N sc x (.fz (.int (a + k))) ρ1)
          | .Sub => Rf.of (store N sc x (.fz (.int (a - k))) ρ1)
          | _ => .stuck)
        | _ => .stuck)
      | _ => .stuck)) else .stuck
  | .Expr e _ => (match e with
    | .Constant (.str _) _ _ => .next ρ
    | _ => if isComp e then .stuck else (E.e sc e ρ).toF fun _ ρ1 => .next ρ1)
  | .Pass _ => .next ρ
  | .Break _ => .brk ρ
  | .Continue _ => .cnt ρ
  | .Return none _ => .ret (.va .non false) ρ
  | .Return (some e) _ => (E.e sc e ρ).toF fun b ρ1 => .ret b ρ1
  | .If c a b _ => (E.t sc c ρ).toF fun k ρ1 => if k then E.ss sc a ρ1 else E.ss sc b ρ1
  | .For tg it body [] _ => if tgOk N sc tg && !isSetE it then (iterS M E sc tg it ρ).toF fun w ρ1 => (loopF (asgT N sc tg) (E.ss sc body) w.1 (lockAll w.2 ρ1)).map (unlockAll w.2) else .stuck
  | .While c body [] _ => loopW (E.t sc c) (E.ss sc body) 1000000 ρ
  | .Raise (some (.Call (.Name x _) (a :: r) [] _)) none _ => if gloK sc x && (a :: r).all notStar then (match M.glob x with
      | .ex => (E.es sc (a :: r) ρ).toF fun ds ρ1 => (match M.mkx x ds with
        | some fs => .exc x fs ρ1
        | none => .stuck)
      | _ => .stuck) else .stuck
  | .Try body [.ExceptHandler (some (.Name c _)) (some n) [st] _] [] [] _ => (match ixN? N n with
    | none => .stuck
    | some i => if (match sc.names.lookup n with | some .local => true | _ => false) && nameOk n && (gloK sc c && (match M.glob c with | .ex => true | _ => false)) then (match E.ss sc body ρ with
      | .exc x fs ρ1 => (match M.isx x c with
        | some false => .exc x fs ρ1
        | some true => if flatSl ρ1[i]? then sufS M N sc x fs n st (ρ1.set i .un) else .stuck
        | none => .stuck)
      | r => r) else .stuck)
  | _ => .stuck
def stepSs (E : Ev) (sc : Scope) (ss : List Stmt) (ρ : Ro) : Rf := match ss with
  | [] => .next ρ
  | s :: r => (match E.s sc s ρ with
    | .next ρ1 => E.ss sc r ρ1
    | q => q)
def step (E : Ev) : Ev := ⟨stepE M N E, stepT M N E, stepEs E, stepAs E, stepS M N E, stepSs E⟩
def ev : Nat → Ev
  | 0 => Ev.bot
  | n + 1 => step M N (ev n)
end
end VE
end

section
set_option Elab.async false
set_option linter.all false
set_option maxRecDepth 100000
/-! VC: what the evaluator's data stand for in the layer's abstract heap. -/
namespace VE
open PySem PySem.Spec L2

mutual
inductive Is (K : PySem.W.Frag) (G : Hp) : V → D → Prop
  | non : Is K G .non .non
  | bl (b : Bool) : Is K G (.bl b) (.bl b)
  | int (i : Int) : Is K G (.int i) (.int i)
  | str (s : Str) : Is K G (.str s) (.str s)
  | tup {a : Addr} {xs : List V} {ds : List D} (h : SqT K G a xs) (r : IsL K G xs ds) : Is K G (.ref a) (.tup ds)
  | lst {a : Addr} {xs : List V} {ds : List D} (h : G a = some (.lst xs)) (r : IsL K G xs ds) : Is K G (.ref a) (.lst ds)
  | scr {a : Addr} {xs : List V} {ds : List D} (h : SqL K G a xs) (r : IsL K G xs ds) : Is K G (.ref a) (.scr ds)
  | dic {a : Addr} {i j : Int} (h : G a = some (.dK [(.inl i, .int j)])) : Is K G (.ref a) (.dic i j)
inductive IsL (K : PySem.W.Frag) (G : Hp) : List V → List D → Prop
  | nil : IsL K G [] []
  | cons {v : V} {vs : List V} {d : D} {ds : List D} (h : Is K G v d) (r : IsL K G vs ds) : IsL K G (v :: vs) (d :: ds)
end
theorem rd_mono {H H' : Hp} {a : Addr} {u : HO} (e : Same H H') (h : Rd H a u) : Rd H' a u := by
  rcases h with h | ⟨o, h⟩
  · exact .inl (e a _ h)
  · exact .inr ⟨o, e a _ h⟩
theorem sqL_mono {K : PySem.W.Frag} {H H' : Hp} {a : Addr} {xs : List V} (e : Same H H') (h : SqL K H a xs) : SqL K H' a xs := by
  rcases h with h | h
  · exact .inl (rd_mono e h)
  · exact .inr h
theorem sqT_mono {K : PySem.W.Frag} {H H' : Hp} {a : Addr} {xs : List V} (e : Same H H') (h : SqT K H a xs) : SqT K H' a xs := by
  rcases h with h | h
  · exact .inl (rd_mono e h)
  · exact .inr h
section
variable {K : PySem.W.Frag} {G H G' H' : Hp}
mutual
theorem Is.mono (e : Same G H) : ∀ {d : D} {v : V}, Is K G v d → Is K H v d
  | .non, _, .non => .non
  | .bl _, _, .bl b => .bl b
  | .int _, _, .int i => .int i
  | .str _, _, .str s => .str s
  | .tup _, _, .tup h r => .tup (sqT_mono e h) (IsL.mono e r)
  | .lst _, _, .lst h r => .lst (e _ _ h) (IsL.mono e r)
  | .scr _, _, .scr h r => .scr (sqL_mono e h) (IsL.mono e r)
  | .dic _ _, _, .dic h => .dic (e _ _ h)
theorem IsL.mono (e : Same G H) : ∀ {ds : List D} {vs : List V}, IsL K G vs ds → IsL K H vs ds
  | [], _, .nil => .nil
  | _ :: _, _, .cons h r => .cons (Is.mono e h) (IsL.mono e r)
end
theorem IsL.length : ∀ {vs : List V} {ds : List D}, IsL K G vs ds → vs.length = ds.length
  | _, _, .nil => rfl
  | _, _, .cons _ r => congrArg Nat.succ (IsL.length r)
theorem IsL.get : ∀ {vs : List V} {ds : List D} {i : Nat} {d : D}, IsL K G vs ds → ds[i]? = some d → ∃ v, vs[i]? = some v ∧ Is K G v d
  | _, _, i, d, .nil, h => by simp at h
  | _, _, 0, d, .cons h r, q => by
    have e : _ = d := Option.some.inj q
    subst e
    exact ⟨_, rfl, h⟩
  | _, _, i + 1, d, .cons h r, q => IsL.get (i := i) r q
theorem IsL.getV : ∀ {vs : List V} {ds : List D} {i : Nat} {v : V}, IsL K G vs ds → vs[i]? = some v → ∃ d, ds[i]? = some d ∧ Is K G v d
  | _, _, i, d, .nil, h => by simp at h
  | _, _, 0, v, .cons h r, q => by
    have e : _ = v := Option.some.inj q
    subst e
    exact ⟨_, rfl, h⟩
  | _, _, i + 1, v, .cons h r, q => IsL.getV (i := i) r q
theorem IsL.append : ∀ {vs ws : List V} {ds es : List D}, IsL K G vs ds → IsL K G ws es → IsL K G (vs ++ ws) (ds ++ es)
  | _, _, _, _, .nil, s => s
  | _, _, _, _, .cons h r, s => .cons h (IsL.append r s)
theorem IsL.one {v : V} {d : D} (h : Is K G v d) : IsL K G [v] [d] := .cons h .nil
theorem IsL.take : ∀ {vs : List V} {ds : List D} (n : Nat), IsL K G vs ds → IsL K G (vs.take n) (ds.take n)
  | _, _, 0, _ => by simpa using IsL.nil
  | _, _, _ + 1, .nil => .nil
  | _, _, n + 1, .cons h r => .cons h (IsL.take n r)
theorem IsL.drop : ∀ {vs : List V} {ds : List D} (n : Nat), IsL K G vs ds → IsL K G (vs.drop n) (ds.drop n)
  | _, _, 0, r => r
  | _, _, _ + 1, .nil => .nil
  | _, _, n + 1, .cons _ r => IsL.drop n r
theorem IsL.set {v : V} {d : D} (h : Is K G v d) : ∀ {vs : List V} {ds : List D} (n : Nat), IsL K G vs ds → IsL K G (vs.set n v) (ds.set n d)
  | _, _, _, .nil => .nil
  | _, _, 0, .cons _ r => .cons h r
  | _, _, n + 1, .cons q r => .cons q (IsL.set h n r)
theorem IsL.rep : ∀ (k : Nat) {vs : List V} {ds : List D}, IsL K G vs ds → IsL K G (List.replicate k vs).flatten (List.replicate k ds).flatten
  | 0, _, _, _ => by simpa using IsL.nil
  | k + 1, _, _, r => by
    rw [List.replicate_succ, List.replicate_succ, List.flatten_cons, List.flatten_cons]
    exact r.append (IsL.rep k r)
theorem IsL.atI {vs : List V} {ds : List D} {i : Int} {d : D} (r : IsL K G vs ds) (h : L2.atI ds i = some d) : ∃ v, L2.atI vs i = some v ∧ Is K G v d := by
  unfold L2.atI at h ⊢
  rw [r.length]
  cases e : ixN ds.length i with
  | none =>
    rw [e] at h
    cases h
  | some j =>
    rw [e] at h
    exact r.get h
theorem IsL.cut {vs : List V} {ds : List D} (r : IsL K G vs ds) (lo hi : Option Int) : IsL K G (cutV vs lo hi) (cutX ds lo hi) := by
  unfold cutV cutX
  rw [r.length]
  exact (r.drop _).take _
end

/-! ### plain data for == -/
section
variable {K : PySem.W.Frag} {G H : Hp}
mutual
theorem Is.dp : ∀ {d : D} {v : V}, plainD d = true → Is K G v d → Dp K G v (toPy d)
  | .non, _, _, .non => .non
  | .bl _, _, _, .bl b => .bl b
  | .int _, _, _, .int i => .int i
  | .str _, _, _, .str s => .str s
  | .tup _, _, p, .tup h r => .tup h (IsL.dp p r)
  | .lst _, _, p, .lst h r => .lst (.inl (.inl h)) (IsL.dp p r)
  | .scr _, _, p, .scr h r => .lst h (IsL.dp p r)
theorem IsL.dp : ∀ {ds : List D} {vs : List V}, plainDs ds = true → IsL K G vs ds → DpAll K G vs (toPys ds)
  | [], _, _, .nil => .nil
  | d :: ds, _, p, .cons h r => .cons (Is.dp (Bool.and_eq_true_iff.mp (show (plainD d && plainDs ds) = true from p)).1 h) (IsL.dp (Bool.and_eq_true_iff.mp (show (plainD d && plainDs ds) = true from p)).2 r)
end
end
mutual
theorem plain_toPy : ∀ d : D, (toPy d).plain = true
  | .non => rfl
  | .bl _ => rfl
  | .int _ => rfl
  | .str _ => rfl
  | .tup xs => by
    show PyData.plainAll (toPys xs) = true
    exact plainAll_toPys xs
  | .lst xs => by
    show PyData.plainAll (toPys xs) = true
    exact plainAll_toPys xs
  | .scr xs => by
    show PyData.plainAll (toPys xs) = true
    exact plainAll_toPys xs
  | .obj _ _ => rfl
  | .dic _ _ => rfl
theorem plainAll_toPys : ∀ ds : List D, PyData.plainAll (toPys ds) = true
  | [] => rfl
  | x :: xs => by
    show ((toPy x).plain && PyData.plainAll (toPys xs)) = true
    rw [plain_toPy x, plainAll_toPys xs]
    rfl
end

/-! ### slots -/
/-- a list of one's own: not among the fixed things -/
def Cell (K : PySem.W.Frag) (G H : Hp) (a : Addr) (d : D) : Prop := G a = none ∧ ∃ xs ds, d = .lst ds ∧ H a = some (.lst xs) ∧ IsL K G xs ds
def SlOk (K : PySem.W.Frag) (G H : Hp) (o : Option (Option V)) : Sl → Prop
  | .un => o = some none
  | .fz d => ∃ v, o = some (some v) ∧ Is K G v d
  | .pz d => ∃ a xs ds, o = some (some (.ref a)) ∧ d = .lst ds ∧ G a = some (.lst xs) ∧ IsL K G xs ds
  | .ow _ d => ∃ a, o = some (some (.ref a)) ∧ Cell K G H a d
/-- slot i holds a list of its own, at a -/
def OwAt (σ : L2.St) (ρ : Ro) (i : Nat) (a : Addr) : Prop := ∃ m d, ρ[i]? = some (.ow m d) ∧ σ[i]? = some (some (.ref a))
/-- the lists that may be changed -/
def Mo (σ : L2.St) (ρ : Ro) (a : Addr) : Prop := ∃ (i : Nat) (m : Md) (d : D), m ≠ Md.lck ∧ ρ[i]? = some (.ow m d) ∧ σ[i]? = some (some (.ref a))
structure Rep (K : PySem.W.Frag) (G H : Hp) (σ : L2.St) (ρ : Ro) : Prop where
  ex : Same G H
  len : σ.length = ρ.length
  sl : ∀ (i : Nat) (s : Sl), ρ[i]? = some s → SlOk K G H σ[i]? s
  dj : ∀ (i j : Nat) (a : Addr), OwAt σ ρ i a → OwAt σ ρ j a → i = j
/-- what becomes of a slot that must not be stored to -/
def PinTo : Sl → Sl → Prop
  | .ow .par _, s => (∃ d, s = .ow .par d) ∨ ∃ d, s = .pz d
  | .ow .lck d, s => s = .ow .lck d
  | .pz d, s => s = .pz d
  | _, _ => True
def pinned : Sl → Bool
  | .ow .par _ => true
  | .ow .lck _ => true
  | .pz _ => true
  | _ => false
theorem PinTo.refl (s : Sl) : PinTo s s := by
  cases s with
  | ow m d =>
    cases m with
    | own => trivial
    | par => exact .inl ⟨d, rfl⟩
    | lck => rfl
  | pz d => rfl
  | _ => trivial
theorem PinTo.pin {s t : Sl} (h : PinTo s t) (p : pinned s = true) : pinned t = true := by
  cases s with
  | ow m d =>
    cases m with
    | own => cases p
    | par =>
      rcases h with ⟨e, h⟩ | ⟨e, h⟩
      · rw [h]; rfl
      · rw [h]; rfl
    | lck =>
      have h' : t = .ow .lck d := h
      rw [h']; rfl
  | pz d =>
    have h' : t = .pz d := h
    rw [h']; rfl
  | un => cases p
  | fz d => cases p
theorem PinTo.trans {s t u : Sl} (h : PinTo s t) (q : PinTo t u) : PinTo s u := by
  cases s with
  | ow m d =>
    cases m with
    | own => trivial
    | par =>
      rcases h with ⟨e, h⟩ | ⟨e, h⟩
      · subst h; exact q
      · subst h
        have q' : u = .pz e := q
        exact .inr ⟨e, q'⟩
    | lck =>
      have h' : t = .ow .lck d := h
      subst h'
      exact q
  | pz d =>
    have h' : t = .pz d := h
    subst h'
    exact q
  | un => trivial
  | fz d => trivial
/-- from one state to a later one -/
structure Go (σ : L2.St) (ρ : Ro) (G H : Hp) (σ' : L2.St) (ρ' : Ro) (G' H' : Hp) : Prop where
  g : Same G G'
  keep : ∀ a o, H a = some o → ¬ Mo σ ρ a → H' a = some o
  fr : ∀ a o, H a = some o → G a = none → ¬ Mo σ ρ a → G' a = none
  own : ∀ a, Mo σ' ρ' a → Mo σ ρ a ∨ H a = none
  pin : ∀ (j : Nat) (s : Sl), ρ[j]? = some s → pinned s = true → σ'[j]? = σ[j]? ∧ ∃ s', ρ'[j]? = some s' ∧ PinTo s s'
  there : ∀ a, H' a = none → H a = none
section
variable {σ σ' σ'' : L2.St} {ρ ρ' ρ'' : Ro} {K : PySem.W.Frag} {G H G' H' G'' H'' : Hp}
theorem Go.refl : Go σ ρ G H σ ρ G H := ⟨Same.refl _, fun _ _ h _ => h, fun _ _ _ h _ => h, fun _ h => .inl h, fun _ s e _ => ⟨rfl, s, e, PinTo.refl s⟩, fun _ h => h⟩
theorem Go.trans (a : Go σ ρ G H σ' ρ' G' H') (b : Go σ' ρ' G' H' σ'' ρ'' G'' H'') : Go σ ρ G H σ'' ρ'' G'' H'' where
  g := a.g.trans b.g
  keep := fun x o h n => b.keep x o (a.keep x o h n) fun m => (a.own x m).elim n fun z => by rw [h] at z; cases z
  fr := fun x o h g n => b.fr x o (a.keep x o h n) (a.fr x o h g n) fun m => (a.own x m).elim n fun z => by rw [h] at z; cases z
  own := fun x m => (b.own x m).elim (a.own x) fun z => .inr (a.there x z)
  pin := fun j s e p => by
    obtain ⟨e1, s1, e2, p1⟩ := a.pin j s e p
    obtain ⟨e3, s2, e4, p2⟩ := b.pin j s1 e2 (p1.pin p)
    exact ⟨e3.trans e1, s2, e4, p1.trans p2⟩
  there := fun x h => a.there x (b.there x h)
/-- expressions: no slot comes to a list of its own -/
def isOw : Sl → Bool
  | .ow _ _ => true
  | _ => false
structure Evo (ρ ρ' : Ro) : Prop where
  len : ρ'.length = ρ.length
  ow : ∀ (i : Nat) (m : Md) (d' : D), ρ'[i]? = some (.ow m d') → ∃ d, ρ[i]? = some (.ow m d)
  stay : ∀ (i : Nat) (s : Sl), ρ[i]? = some s → isOw s = false → ρ'[i]? = some s
theorem Evo.refl (ρ : Ro) : Evo ρ ρ := ⟨rfl, fun _ _ d h => ⟨d, h⟩, fun _ _ h _ => h⟩
theorem Evo.trans {ρ ρ' ρ'' : Ro} (a : Evo ρ ρ') (b : Evo ρ' ρ'') : Evo ρ ρ'' := ⟨b.1.trans a.1, fun i m d h => by
  obtain ⟨d1, h1⟩ := b.2 i m d h
  exact a.2 i m d1 h1, fun i s h n => b.stay i s (a.stay i s h n) n⟩
/-- a value that an expression gave -/
def Den (K : PySem.W.Frag) (G H : Hp) (σ : L2.St) (ρ : Ro) (v : V) : Bv → Prop
  | .at i => σ[i]? = some (some v)
  | .va d false => Is K G v d
  | .va d true => ∃ a, v = .ref a ∧ Cell K G H a d ∧ ∀ i, ¬ OwAt σ ρ i a
theorem mo_ow {a : Addr} (h : Mo σ ρ a) : ∃ i, OwAt σ ρ i a := let ⟨i, m, d, _, h1, h2⟩ := h; ⟨i, m, d, h1, h2⟩
theorem OwAt.evo {i : Nat} {a : Addr} (e : Evo ρ ρ') (h : OwAt σ ρ' i a) : OwAt σ ρ i a := by
  obtain ⟨m, d, h1, h2⟩ := h
  obtain ⟨d', h3⟩ := e.2 i m d h1
  exact ⟨m, d', h3, h2⟩
theorem Cell.keep {a : Addr} {d : D} (c : Cell K G H a d) (g : Go σ ρ G H σ' ρ' G' H') (n : ¬ Mo σ ρ a) : Cell K G' H' a d := by
  obtain ⟨c1, xs, ds, c2, c3, c4⟩ := c
  exact ⟨g.fr a _ c3 c1 n, xs, ds, c2, g.keep a _ c3 n, c4.mono g.g⟩
theorem Den.go {v : V} {b : Bv} (h : Den K G H σ ρ v b) (g : Go σ ρ G H σ ρ' G' H') (e : Evo ρ ρ') : Den K G' H' σ ρ' v b := by
  cases b with
  | «at» i => exact h
  | va d f =>
    cases f with
    | false => exact Is.mono g.g h
    | true =>
      obtain ⟨a, rfl, c, n⟩ := h
      exact ⟨a, rfl, c.keep g (fun m => let ⟨i, q⟩ := mo_ow m; n i q), fun i q => n i (q.evo e)⟩
/-- what may be read of a value -/
def At (K : PySem.W.Frag) (G H : Hp) (v : V) (d : D) : Prop := Is K G v d ∨ ∃ a, v = .ref a ∧ Cell K G H a d
theorem Den.deref {v : V} {b : Bv} {d : D} (R : Rep K G H σ ρ) (h : Den K G H σ ρ v b) (e : deref ρ b = some d) : At K G H v d := by
  cases b with
  | «at» i =>
    have e' : getSl ρ i = some d := e
    unfold getSl at e'
    have hv : σ[i]? = some (some v) := h
    cases q : ρ[i]? with
    | none => rw [q] at e'; cases e'
    | some s =>
      rw [q] at e'
      have z := R.sl i s q
      rw [hv] at z
      cases s with
      | un => cases e'
      | fz d' =>
        have ed : d' = d := Option.some.inj e'
        subst ed
        obtain ⟨v', e1, e2⟩ := z
        cases e1
        exact .inl e2
      | pz d' =>
        have ed : d' = d := Option.some.inj e'
        subst ed
        obtain ⟨a, xs, ds, e1, e2, e3, e4⟩ := z
        cases e1
        subst e2
        exact .inl (.lst e3 e4)
      | ow m d' =>
        have ed : d' = d := Option.some.inj e'
        subst ed
        obtain ⟨a, e1, c⟩ := z
        cases e1
        exact .inr ⟨a, rfl, c⟩
  | va d' f =>
    have ed : d' = d := Option.some.inj e
    subst ed
    cases f with
    | false => exact .inl h
    | true =>
      obtain ⟨a, rfl, c, _⟩ := h
      exact .inr ⟨a, rfl, c⟩
/-! what a readable value is, by its data -/
theorem At.non {v : V} (h : At K G H v .non) : v = .non := by
  rcases h with h | ⟨a, _, _, xs, ds, e, _⟩
  · cases h; rfl
  · cases e
theorem At.bl {v : V} {b : Bool} (h : At K G H v (.bl b)) : v = .bl b := by
  rcases h with h | ⟨a, _, _, xs, ds, e, _⟩
  · cases h; rfl
  · cases e
theorem At.int {v : V} {i : Int} (h : At K G H v (.int i)) : v = .int i := by
  rcases h with h | ⟨a, _, _, xs, ds, e, _⟩
  · cases h; rfl
  · cases e
theorem At.str {v : V} {s : Str} (h : At K G H v (.str s)) : v = .str s := by
  rcases h with h | ⟨a, _, _, xs, ds, e, _⟩
  · cases h; rfl
  · cases e
theorem At.tup {v : V} {ds : List D} (ex : Same G H) (h : At K G H v (.tup ds)) : ∃ a xs, v = .ref a ∧ SqT K H a xs ∧ IsL K G xs ds := by
  rcases h with h | ⟨a, _, _, xs, ds, e, _⟩
  · cases h with
    | tup h r => exact ⟨_, _, rfl, sqT_mono ex h, r⟩
  · cases e
theorem At.isTup {v : V} {ds : List D} (h : At K G H v (.tup ds)) : Is K G v (.tup ds) := by
  rcases h with h | ⟨a, _, _, xs, ds, e, _⟩
  · exact h
  · cases e
theorem At.lst {v : V} {ds : List D} (ex : Same G H) (h : At K G H v (.lst ds)) : ∃ a xs, v = .ref a ∧ H a = some (.lst xs) ∧ IsL K G xs ds := by
  rcases h with h | ⟨a, rfl, _, xs, ds', e, hh, r⟩
  · cases h with
    | lst h r => exact ⟨_, _, rfl, ex _ _ h, r⟩
  · cases e
    exact ⟨a, xs, rfl, hh, r⟩
theorem At.scr {v : V} {ds : List D} (ex : Same G H) (h : At K G H v (.scr ds)) : ∃ a xs, v = .ref a ∧ SqL K H a xs ∧ IsL K G xs ds := by
  rcases h with h | ⟨a, _, _, xs, ds, e, _⟩
  · cases h with
    | scr h r => exact ⟨_, _, rfl, sqL_mono ex h, r⟩
  · cases e
theorem At.dicAt {v : V} {i j : Int} (ex : Same G H) (h : At K G H v (.dic i j)) : ∃ a, v = .ref a ∧ H a = some (.dK [(.inl i, .int j)]) := by
  rcases h with h | ⟨a, _, _, xs, ds, e, _⟩
  · cases h with
    | dic h => exact ⟨_, rfl, ex _ _ h⟩
  · cases e
theorem At.dp {v : V} {d : D} (p : plainD d = true) (ex : Same G H) (h : At K G H v d) : Dp K H v (toPy d) := by
  rcases h with h | ⟨a, rfl, _, xs, ds, rfl, hh, r⟩
  · exact (h.mono ex).dp p
  · exact .lst (.inl (.inl hh)) ((r.mono ex).dp p)
end
end VE
end

section
set_option Elab.async false
set_option linter.all false
set_option maxRecDepth 100000
/-! VD: what is to be shown of the evaluator; its first lemmas. -/
namespace VE
open PySem PySem.Spec L2

/-! ### the layer's judgements, by what they let show -/
def WE (X : Cx) (e : Expr) (σ : L2.St) (H : Hp) (Q : VK) : Prop := ∃ t, PE X e t ∧ t σ H Q
def WT (X : Cx) (e : Expr) (σ : L2.St) (H : Hp) (Q : Bool → Hp → Prop) : Prop := ∃ t, PT X e t ∧ t σ H Q
def WA (X : Cx) (es : List Expr) (σ : L2.St) (H : Hp) (Q : List V → Hp → Prop) : Prop := ∃ t, PA X es t ∧ t σ H Q
def WS (X : Cx) (st : Stmt) (D : Ends) (σ : L2.St) (H : Hp) : Prop := ∃ t, PS X st t ∧ t D σ H
def WSs (X : Cx) (st : List Stmt) (D : Ends) (σ : L2.St) (H : Hp) : Prop := ∃ t, PSs X st t ∧ t D σ H
section
variable {X : Cx}
theorem pe_we {e : Expr} : PE X e (WE X e) := ⟨fun pins s σ H Q I ⟨_, ht, h⟩ => ht.run pins s σ H Q I h⟩
theorem pt_wt {e : Expr} : PT X e (WT X e) := ⟨fun pins s σ H Q I ⟨_, ht, h⟩ => ht.run pins s σ H Q I h⟩
theorem pa_wa {es : List Expr} : PA X es (WA X es) := ⟨fun pos pins s σ H Q I ⟨_, ht, h⟩ => ht.run pos pins s σ H Q I h⟩
theorem ps_ws {st : Stmt} : PS X st (WS X st) := ⟨fun pins s σ H D I ⟨_, ht, h⟩ => ht.run pins s σ H D I h⟩
theorem pss_wss {st : List Stmt} : PSs X st (WSs X st) := ⟨fun pins s σ H D I ⟨_, ht, h⟩ => ht.run pins s σ H D I h⟩
theorem WE.mk {e : Expr} {t : TE} {σ : L2.St} {H : Hp} {Q : VK} (h : PE X e t) (q : t σ H Q) : WE X e σ H Q := ⟨t, h, q⟩
theorem WT.mk {e : Expr} {t : TT} {σ : L2.St} {H : Hp} {Q : Bool → Hp → Prop} (h : PT X e t) (q : t σ H Q) : WT X e σ H Q := ⟨t, h, q⟩
theorem WA.mk {es : List Expr} {t : TA} {σ : L2.St} {H : Hp} {Q : List V → Hp → Prop} (h : PA X es t) (q : t σ H Q) : WA X es σ H Q := ⟨t, h, q⟩
theorem WS.mk {e : Stmt} {t : TS} {σ : L2.St} {H : Hp} {D : Ends} (h : PS X e t) (q : t D σ H) : WS X e D σ H := ⟨t, h, q⟩
theorem WSs.mk {e : List Stmt} {t : TS} {σ : L2.St} {H : Hp} {D : Ends} (h : PSs X e t) (q : t D σ H) : WSs X e D σ H := ⟨t, h, q⟩
end

/-! ### exceptions -/
inductive FsL (K : PySem.W.Frag) (G : Hp) : List (Str × V) → List (Str × D) → Prop
  | nil : FsL K G [] []
  | cons {x : Str} {v : V} {d : D} {vs : List (Str × V)} {ds : List (Str × D)} (h : Is K G v d) (r : FsL K G vs ds) : FsL K G ((x, v) :: vs) ((x, d) :: ds)
/-- the exception of class cls with the dict dd is one of the class c with the fields fs -/
def XIs (mg : Str → Option Value) (K : PySem.W.Frag) (G : Hp) (cls : Value) (dd : Option Addr) (c : Str) (fs : List (Str × D)) : Prop :=
  ∃ C a xs, mg c = some (.ref C) ∧ cls = .ref C ∧ dd = some a ∧ G a = some (.xd xs) ∧ FsL K G xs fs

/-! ### what an evaluation promises -/
def Post {α : Type} (mg : Str → Option Value) (K : PySem.W.Frag) (W : WX) (σ : L2.St) (ρ : Ro) (G H : Hp) (r : Rs α) (C : α → Ro → Hp → Hp → Prop) : Prop := match r with
  | .stuck => False
  | .ok a ρ' => ∀ G' H', Go σ ρ G H σ ρ' G' H' → Evo ρ ρ' → Rep K G' H' σ ρ' → C a ρ' G' H'
  | .exc c fs ρ' => ∀ cls dd G' H', Go σ ρ G H σ ρ' G' H' → Evo ρ ρ' → Rep K G' H' σ ρ' → XIs mg K G' cls dd c fs → W cls dd σ H'
def PostF (mg : Str → Option Value) (K : PySem.W.Frag) (W : WX) (σ : L2.St) (ρ : Ro) (G H : Hp) (r : Rf) (D : Ends) : Prop := match r with
  | .stuck => False
  | .next ρ' => ∀ σ' G' H', Go σ ρ G H σ' ρ' G' H' → Rep K G' H' σ' ρ' → D.nx σ' H'
  | .brk ρ' => ∀ σ' G' H', Go σ ρ G H σ' ρ' G' H' → Rep K G' H' σ' ρ' → D.bk σ' H'
  | .cnt ρ' => ∀ σ' G' H', Go σ ρ G H σ' ρ' G' H' → Rep K G' H' σ' ρ' → D.ct σ' H'
  | .ret b ρ' => ∀ v σ' G' H', Go σ ρ G H σ' ρ' G' H' → Rep K G' H' σ' ρ' → Den K G' H' σ' ρ' v b → (∀ d a, b = .va d true → v = .ref a → H a = none) → D.rt v H'
  | .exc c fs ρ' => ∀ cls dd σ' G' H', Go σ ρ G H σ' ρ' G' H' → Rep K G' H' σ' ρ' → XIs mg K G' cls dd c fs → W cls dd σ' H'
def RetOk (K : PySem.W.Frag) (H G' H' : Hp) (v : V) (d : D) : Bool → Prop
  | false => Is K G' v d
  | true => ∃ a, v = .ref a ∧ H a = none ∧ Cell K G' H' a d
def PostC (mg : Str → Option Value) (K : PySem.W.Frag) (σ : L2.St) (ρ : Ro) (G H : Hp) (r : Cr) (Q : VK) (E : XK) : Prop := match r with
  | .stuck => False
  | .ret d f as => ∀ v G' H', Go σ ρ G H σ as G' H' → Rep K G' H' σ as → RetOk K H G' H' v d f → Q v H'
  | .exc c fs as => ∀ cls dd G' H', Go σ ρ G H σ as G' H' → Rep K G' H' σ as → XIs mg K G' cls dd c fs → E cls dd H'
/-- what a function promises: the evaluator's answer -/
def spF (mg : Str → Option Value) (K : PySem.W.Frag) (M : Mdl) (x : Str) (np : Nat) : Sp := fun vs H Q E => ∃ G sls, vs.length = np ∧ Rep K G H (vs.map some) sls ∧ PostC mg K (vs.map some) sls G H (M.call x sls) Q E

/-- a class of one's own whose calls make exceptions with these fields -/
def MkX (M : Mdl) (k : Nat) (P : Program) (w : World) (K : PySem.W.Frag) (mg : Str → Option Value) (base : Heap) (x : Str) (C : Addr) : Prop :=
  ∃ (fI : Addr) (fd : FuncData) (ps : List Str) (sp : Sp) (j : Nat), OexC K C ∧ PySem.W.findIn K (.ref C) "__init__" = some (some (.ref fI)) ∧ PySem.W.typeIn K (.ref fI) = some (.type "function") ∧
    FnOk P w K mg base (L2.CX P w) j fI fd ps sp ∧ L2.Binds K fd ps [] ∧ j + 1 ≤ k ∧ ∀ ds fs, M.mkx x ds = some fs → ds.length ≤ 1000 ∧ ∀ (G H : Hp) (vs : List V) (a : Addr) (Q : VK) (E : XK), IsL K G vs ds → H a = some (exo a C none) →
      (∀ (d : Addr) (fsV : List (Str × V)) (H2 : Hp), H d = none → d ≠ a → FsL K G fsV fs → H2 a = some (exo a C (some d)) → H2 d = some (exd d fsV) → (∀ b, b ≠ a → b ≠ d → H2 b = H b) → Q .non H2) → sp (.ref a :: vs) H Q E
/-- a call with keywords binds by its plan -/
def KwOk (K : PySem.W.Frag) (fd : FuncData) (ps : List Str) (n : Nat) (ks : List Str) (pl : List KwSrc) (dfs : List D) : Prop := ∃ g gV, KBn K fd ps n ks g gV ∧ ∀ (G : Hp) (vs zs : List V) (ds es : List D), IsL K G vs ds → IsL K G zs es → vs.length = n → zs.length = ks.length → IsL K G (gV vs zs) (planL .non ds dfs es pl)
/-- what a generator promises: the evaluator's items -/
def spGn (K : PySem.W.Frag) (M : Mdl) (x : Str) (np : Nat) : SpG := fun vs H cont _ => ∃ G ds ys, vs.length = np ∧ Same G H ∧ IsL K G vs ds ∧ M.gen x ds = some ys ∧
  ∀ us G' H', Go (vs.map some) (ds.map .fz) G H (vs.map some) (ds.map .fz) G' H' → Rep K G' H' (vs.map some) (ds.map .fz) → IsL K G' us ys → cont us H'
structure MdOk (M : Mdl) (k : Nat) (P : Program) (w : World) (K : PySem.W.Frag) (mg : Str → Option Value) (base : Heap) : Prop where
  con : ∀ x d, M.glob x = .con d → ∃ u v, mg x = some u ∧ RelV v u ∧ ∀ G, Is K G v d
  free : ∀ x, M.glob x = .free → mg x = none
  bfn : ∀ x id, M.glob x = .bfn id → mg x = some (.builtin id)
  fn : ∀ x, M.glob x = .fn → ∃ f fd ps, mg x = some (.ref f) ∧ PySem.W.keepIn K (.ref f) = true ∧ FnOk P w K mg base (L2.CX P w) k f fd ps (spF mg K M x ps.length) ∧ (∀ sls, M.call x sls ≠ .stuck → sls.length = ps.length) ∧
    (∀ n ds, M.dfl x n = some ds → ∃ us vs, L2.Binds K fd ps us ∧ Vals vs us ∧ ∀ G, IsL K G vs ds) ∧ ∀ n ks pl dfs, M.kwp x n ks = some (pl, dfs) → KwOk K fd ps n ks pl dfs
  gen : ∀ x ds ys, M.glob x = .gen → M.gen x ds = some ys → ∃ (j : Nat) (f : Addr) (fd : FuncData) (ps : List Str), j + 3 ≤ k ∧ mg x = some (.ref f) ∧ PySem.W.keepIn K (.ref f) = true ∧ GFn P w K mg base j f fd ps (spGn K M x ps.length) ∧ L2.Binds K fd ps [] ∧ ds.length = ps.length
  ex : ∀ x, M.glob x = .ex → ∃ C, mg x = some (.ref C) ∧ MkX M k P w K mg base x C
  isx : ∀ x y b, M.isx x y = some b → ∃ C D, mg x = some (.ref C) ∧ mg y = some (.ref D) ∧ PySem.W.exmOne K (.ref C) (.ref D) = some b
  fld : ∀ x f, M.fok x f = true → ∃ C, mg x = some (.ref C) ∧ XfC K C ∧ PySem.W.findIn K (.ref C) f = some none
structure XOk (M : Mdl) (N : List Str) (sc : Scope) (k : Nat) (X : Cx) (W : WX) : Prop where
  nm : X.N = N
  nd : N.Nodup
  rel : ∀ x, X.env.scope.names.lookup x = sc.names.lookup x ∨ (sc.names.lookup x = some .free ∧ X.env.scope.names.lookup x = some .cell)
  fn : ∀ x, sc.names.lookup x = some .cell → X.fn x = true
  kind : X.env.scope.kind = .function
  calm : X.calm = true
  room : Room k X.A
  tk : Takes X W
  hp : PassesOwn (model X.prog X.w) X.A X.env X.xe
  md : MdOk M k X.prog X.w X.K X.mg X.base
/-- an argument list's values -/
inductive DenA (K : PySem.W.Frag) (G : Hp) (σ : L2.St) : List V → List Bv → Prop
  | nil : DenA K G σ [] []
  | «at» {v : V} {i : Nat} {vs : List V} {bs : List Bv} (h : σ[i]? = some (some v)) (r : DenA K G σ vs bs) : DenA K G σ (v :: vs) (.at i :: bs)
  | va {v : V} {d : D} {vs : List V} {bs : List Bv} (h : Is K G v d) (r : DenA K G σ vs bs) : DenA K G σ (v :: vs) (.va d false :: bs)
def Out (K : PySem.W.Frag) (H G' H' : Hp) (σ : L2.St) (ρ' : Ro) (v : V) (b : Bv) : Prop := Den K G' H' σ ρ' v b ∧ ∀ d a, b = .va d true → v = .ref a → H a = none
/-- a def's own frame is on top -/
def Frm (X : Cx) : Prop := X.stack = X.env :: X.outer ∧ X.env.frame = some X.env.locals
structure Snd (M : Mdl) (N : List Str) (E : Ev) : Prop where
  e : ∀ {k : Nat} {sc : Scope} {X : Cx} {W : WX} {σ : L2.St} {ρ : Ro} {G H : Hp} {e : Expr} {Q : VK}, XOk M N sc k X W → Rep X.K G H σ ρ →
    Post X.mg X.K W σ ρ G H (E.e sc e ρ) (fun b ρ' G' H' => ∀ v, Out X.K H G' H' σ ρ' v b → Q v H') → WE X e σ H Q
  t : ∀ {k : Nat} {sc : Scope} {X : Cx} {W : WX} {σ : L2.St} {ρ : Ro} {G H : Hp} {e : Expr} {Q : Bool → Hp → Prop}, XOk M N sc k X W → Rep X.K G H σ ρ →
    Post X.mg X.K W σ ρ G H (E.t sc e ρ) (fun b _ _ H' => Q b H') → WT X e σ H Q
  es : ∀ {k : Nat} {sc : Scope} {X : Cx} {W : WX} {σ : L2.St} {ρ : Ro} {G H : Hp} {es : List Expr} {Q : List V → Hp → Prop}, XOk M N sc k X W → Rep X.K G H σ ρ →
    Post X.mg X.K W σ ρ G H (E.es sc es ρ) (fun ds _ G' H' => ∀ vs, IsL X.K G' vs ds → Q vs H') → WA X es σ H Q
  as : ∀ {k : Nat} {sc : Scope} {X : Cx} {W : WX} {σ : L2.St} {ρ : Ro} {G H : Hp} {es : List Expr} {Q : List V → Hp → Prop}, XOk M N sc k X W → Rep X.K G H σ ρ →
    Post X.mg X.K W σ ρ G H (E.as sc es ρ) (fun bs _ G' H' => ∀ vs, DenA X.K G' σ vs bs → Q vs H') → WA X es σ H Q
  s : ∀ {k : Nat} {sc : Scope} {X : Cx} {W : WX} {σ : L2.St} {ρ : Ro} {G H : Hp} {st : Stmt} {D : Ends}, XOk M N sc k X W → Frm X → Rep X.K G H σ ρ →
    PostF X.mg X.K W σ ρ G H (E.s sc st ρ) D → WS X st D σ H
  ss : ∀ {k : Nat} {sc : Scope} {X : Cx} {W : WX} {σ : L2.St} {ρ : Ro} {G H : Hp} {st : List Stmt} {D : Ends}, XOk M N sc k X W → Frm X → Rep X.K G H σ ρ →
    PostF X.mg X.K W σ ρ G H (E.ss sc st ρ) D → WSs X st D σ H

section
variable {α β : Type} {mg : Str → Option Value} {K : PySem.W.Frag} {W : WX} {σ : L2.St} {ρ : Ro} {G H : Hp}
theorem Post.bind {r : Rs α} {k : α → Ro → Rs β} {C : β → Ro → Hp → Hp → Prop} (h : Post mg K W σ ρ G H (r.bind k) C) :
    Post mg K W σ ρ G H r fun a ρ1 G1 H1 => Post mg K W σ ρ1 G1 H1 (k a ρ1) C := by
  cases r with
  | stuck => exact h
  | exc c fs ρ' => exact h
  | ok a ρ1 =>
    intro G1 H1 g1 e1 R1
    have h' : Post mg K W σ ρ G H (k a ρ1) C := h
    show Post mg K W σ ρ1 G1 H1 (k a ρ1) C
    cases q : k a ρ1 with
    | stuck => rw [q] at h'; exact h'
    | exc c fs ρ2 =>
      rw [q] at h'
      exact fun cls dd G2 H2 g2 e2 R2 x => h' cls dd G2 H2 (g1.trans g2) (e1.trans e2) R2 x
    | ok b ρ2 =>
      rw [q] at h'
      exact fun G2 H2 g2 e2 R2 => h' G2 H2 (g1.trans g2) (e1.trans e2) R2
theorem Post.imp {r : Rs α} {C C' : α → Ro → Hp → Hp → Prop} (h : Post mg K W σ ρ G H r C) (i : ∀ a ρ' G' H', r = .ok a ρ' → Go σ ρ G H σ ρ' G' H' → Evo ρ ρ' → Rep K G' H' σ ρ' → C a ρ' G' H' → C' a ρ' G' H') :
    Post mg K W σ ρ G H r C' := by
  cases r with
  | stuck => exact h
  | exc c fs ρ' => exact h
  | ok a ρ1 => exact fun G1 H1 g e R => i a ρ1 G1 H1 rfl g e R (h G1 H1 g e R)
/-- the rest of an evaluation that has come to its value -/
theorem Post.here {a : α} {C : α → Ro → Hp → Hp → Prop} (R : Rep K G H σ ρ) (h : Post mg K W σ ρ G H (.ok a ρ) C) : C a ρ G H := h G H Go.refl (Evo.refl ρ) R
theorem Post.of_none {a : Option α} {C : α → Ro → Hp → Hp → Prop} (h : Post mg K W σ ρ G H (Rs.of a ρ) C) : ∃ x, a = some x ∧ Post mg K W σ ρ G H (.ok x ρ) C := by
  cases a with
  | none => exact h.elim
  | some x => exact ⟨x, rfl, h⟩
theorem PostF.bind {r : Rs α} {k : α → Ro → Rf} {D : Ends} (h : PostF mg K W σ ρ G H (r.toF k) D) :
    Post mg K W σ ρ G H r fun a ρ1 G1 H1 => PostF mg K W σ ρ1 G1 H1 (k a ρ1) D := by
  cases r with
  | stuck => exact h
  | exc c fs ρ' => exact fun cls dd G' H' g _ R x => h cls dd σ G' H' g R x
  | ok a ρ1 =>
    intro G1 H1 g1 e1 R1
    have h' : PostF mg K W σ ρ G H (k a ρ1) D := h
    show PostF mg K W σ ρ1 G1 H1 (k a ρ1) D
    cases q : k a ρ1 with
    | stuck => rw [q] at h'; exact h'
    | exc c fs ρ2 => rw [q] at h'; exact fun cls dd σ2 G2 H2 g2 R2 x => h' cls dd σ2 G2 H2 (g1.trans g2) R2 x
    | next ρ2 => rw [q] at h'; exact fun σ2 G2 H2 g2 R2 => h' σ2 G2 H2 (g1.trans g2) R2
    | brk ρ2 => rw [q] at h'; exact fun σ2 G2 H2 g2 R2 => h' σ2 G2 H2 (g1.trans g2) R2
    | cnt ρ2 => rw [q] at h'; exact fun σ2 G2 H2 g2 R2 => h' σ2 G2 H2 (g1.trans g2) R2
    | ret b ρ2 => rw [q] at h'; exact fun v σ2 G2 H2 g2 R2 dn nw => h' v σ2 G2 H2 (g1.trans g2) R2 dn fun d a e1 e2 => g1.there a (nw d a e1 e2)
end

/-! ### new things -/
section
variable {K : PySem.W.Frag} {σ : L2.St} {ρ : Ro} {G H : Hp} {p : Addr} {o : HO}
theorem same_upd (h : H p = none) : Same H (upd H p o) := fun b x e => by
  rw [upd_ne (ne_of_none e h)]
  exact e
theorem Rep.gnone (R : Rep K G H σ ρ) (h : H p = none) : G p = none := R.ex.free h
theorem upd_none {a : Addr} (h : upd H p o a = none) : H a = none := by
  by_cases e : a = p
  · subst e; rw [upd_same] at h; cases h
  · rw [upd_ne e] at h; exact h
/-- a new thing, not fixed -/
theorem go_new (h : H p = none) : Go σ ρ G H σ ρ G (upd H p o) :=
  ⟨Same.refl _, fun a u e _ => same_upd h a u e, fun _ _ _ e _ => e, fun _ m => .inl m, fun _ s e _ => ⟨rfl, s, e, PinTo.refl s⟩, fun _ e => upd_none e⟩
theorem SlOk.later {G' H' : Hp} {x : Option (Option V)} {s : Sl} (h : SlOk K G H x s) (g : Same G G') (k : ∀ m a d, s = .ow m d → x = some (some (.ref a)) → Cell K G H a d → Cell K G' H' a d) : SlOk K G' H' x s := by
  cases s with
  | un => exact h
  | fz d => obtain ⟨v, e, i⟩ := h; exact ⟨v, e, i.mono g⟩
  | pz d => obtain ⟨a, xs, ds, e1, e2, e3, e4⟩ := h; exact ⟨a, xs, ds, e1, e2, g _ _ e3, e4.mono g⟩
  | ow m d => obtain ⟨a, e, c⟩ := h; exact ⟨a, e, k m a d rfl e c⟩
theorem rep_new (R : Rep K G H σ ρ) (h : H p = none) : Rep K G (upd H p o) σ ρ :=
  ⟨R.ex.trans (same_upd h), R.len, fun i s e => (R.sl i s e).later (Same.refl _) fun _ a d _ _ ⟨c1, xs, ds, c2, c3, c4⟩ => ⟨c1, xs, ds, c2, same_upd h _ _ c3, c4⟩, R.dj⟩
/-- a new thing, fixed -/
theorem go_fix (R : Rep K G H σ ρ) (h : H p = none) : Go σ ρ G H σ ρ (upd G p o) (upd H p o) :=
  ⟨same_upd (R.gnone h), fun a u e _ => same_upd h a u e, fun a u e g _ => by rw [upd_ne (ne_of_none e h)]; exact g, fun _ m => .inl m, fun _ s e _ => ⟨rfl, s, e, PinTo.refl s⟩, fun _ e => upd_none e⟩
theorem rep_fix (R : Rep K G H σ ρ) (h : H p = none) : Rep K (upd G p o) (upd H p o) σ ρ := by
  refine ⟨fun a u e => ?_, R.len, fun i s e => (R.sl i s e).later (same_upd (R.gnone h)) fun _ a d _ _ ⟨c1, xs, ds, c2, c3, c4⟩ => ⟨?_, xs, ds, c2, same_upd h _ _ c3, c4.mono (same_upd (R.gnone h))⟩, R.dj⟩
  · by_cases q : a = p
    · subst q; rw [upd_same] at e ⊢; exact e
    · rw [upd_ne q] at e ⊢; exact R.ex a u e
  · rw [upd_ne (ne_of_none c3 h)]; exact c1
theorem new_un (R : Rep K G H σ ρ) (h : H p = none) (i : Nat) : ¬ OwAt σ ρ i p := fun ⟨m, d, e1, e2⟩ => by
  obtain ⟨a, e3, _, xs, ds, _, e4, _⟩ := R.sl i _ e1
  rw [e2] at e3
  cases e3
  rw [h] at e4
  cases e4
end

/-! ### fixing a list of a slot's own -/
section
variable {mg : Str → Option Value} {K : PySem.W.Frag} {W : WX} {σ : L2.St} {ρ : Ro} {G H : Hp}
def frozen : Md → D → Sl
  | .par, d => .pz d
  | _, d => .fz d
theorem getSet {ρ : Ro} {i j : Nat} {s t : Sl} (h : (ρ.set i s)[j]? = some t) : (j = i ∧ t = s) ∨ (j ≠ i ∧ ρ[j]? = some t) := by
  by_cases e : j = i
  · subst e
    rw [List.getElem?_set_self'] at h
    cases q : ρ[j]? with
    | none => rw [q] at h; cases h
    | some u => rw [q] at h; exact .inl ⟨rfl, (Option.some.inj h).symm⟩
  · rw [List.getElem?_set_ne (Ne.symm e)] at h
    exact .inr ⟨e, h⟩
theorem getSet_self {ρ : Ro} {i : Nat} {s t : Sl} (h : ρ[i]? = some t) : (ρ.set i s)[i]? = some s := by
  rw [List.getElem?_set_self', h]
  rfl
theorem getSet_ne {ρ : Ro} {i j : Nat} {s : Sl} (h : j ≠ i) : (ρ.set i s)[j]? = ρ[j]? := List.getElem?_set_ne (Ne.symm h)
theorem evo_freeze {i : Nat} {m : Md} {d : D} (h : ρ[i]? = some (.ow m d)) : Evo ρ (ρ.set i (frozen m d)) := ⟨List.length_set, fun j m' d' h => by
  rcases getSet h with ⟨_, e⟩ | ⟨_, e⟩
  · cases m <;> cases e
  · exact ⟨d', e⟩, fun j s e n => by
  rw [getSet_ne fun z => by rw [z, h] at e; cases e; cases n]
  exact e⟩
theorem freeze (R : Rep K G H σ ρ) {i : Nat} {m : Md} {d : D} (h : ρ[i]? = some (.ow m d)) (hm : m ≠ .lck) :
    ∃ a xs ds, σ[i]? = some (some (.ref a)) ∧ d = .lst ds ∧ H a = some (.lst xs) ∧ IsL K G xs ds ∧ Go σ ρ G H σ (ρ.set i (frozen m d)) (upd G a (.lst xs)) H ∧ Rep K (upd G a (.lst xs)) H σ (ρ.set i (frozen m d)) := by
  obtain ⟨a, ea, c1, xs, ds, c2, c3, c4⟩ := R.sl i _ h
  have sg : Same G (upd G a (.lst xs)) := same_upd c1
  refine ⟨a, xs, ds, ea, c2, c3, c4, ⟨sg, fun _ _ e _ => e, fun x u e g n => ?_, fun x mo => ?_, fun j s e p => ⟨rfl, ?_⟩, fun _ e => e⟩, ?_⟩
  · rw [upd_ne fun z => n ⟨i, m, d, hm, h, by rw [z]; exact ea⟩]
    exact g
  · obtain ⟨j, m', d', n', e1, e2⟩ := mo
    rcases getSet e1 with ⟨_, e⟩ | ⟨_, e⟩
    · cases m <;> cases e
    · exact .inl ⟨j, m', d', n', e, e2⟩
  · by_cases q : j = i
    · subst q
      rw [h] at e
      cases e
      refine ⟨_, getSet_self h, ?_⟩
      cases m with
      | own => trivial
      | par => exact .inr ⟨d, rfl⟩
      | lck => exact absurd rfl hm
    · exact ⟨s, by rw [getSet_ne q]; exact e, PinTo.refl s⟩
  · refine ⟨fun x u e => ?_, R.len.trans List.length_set.symm, fun j s e => ?_, fun j l x o1 o2 => ?_⟩
    · by_cases q : x = a
      · subst q; rw [upd_same] at e; rw [← e]; exact c3
      · rw [upd_ne q] at e; exact R.ex x u e
    · rcases getSet e with ⟨rfl, e'⟩ | ⟨ne, e'⟩
      · subst e'
        cases m with
        | own => exact ⟨.ref a, ea, by rw [c2]; exact .lst upd_same (c4.mono sg)⟩
        | par => exact ⟨a, xs, ds, ea, c2, upd_same, c4.mono sg⟩
        | lck => exact absurd rfl hm
      · refine (R.sl j s e').later sg fun m' x d' es ex ⟨k1, ys, es', k2, k3, k4⟩ => ⟨?_, ys, es', k2, k3, k4.mono sg⟩
        rw [upd_ne fun z => ne (R.dj j i x ⟨m', d', by rw [e', es], ex⟩ ⟨m, d, h, by rw [z]; exact ea⟩)]
        exact k1
    · have old : ∀ j, OwAt σ (ρ.set i (frozen m d)) j x → OwAt σ ρ j x := fun j q => q.evo (evo_freeze h)
      exact R.dj j l x (old j o1) (old l o2)
end
end VE
end

section
set_option Elab.async false
set_option linter.all false
set_option maxRecDepth 100000
set_option maxHeartbeats 1000000
/-! VE1: operators, comparisons, subscripts of the evaluator are right. -/
namespace VE
open PySem PySem.Spec L2

/-! ### side conditions -/
theorem star_cons {e : Expr} {es : List Expr} {env : Env} (h : notStar e = true) : starEach (e :: es) env = (false, eval e env) :: starEach es env := by
  cases e <;> first | rfl | cases h
theorem star_none : ∀ {es : List Expr} {env : Env} {pos : Pos}, es.all notStar = true → (backTo pos (starEach es env)).any (·.1) = false
  | [], _, _, _ => rfl
  | e :: es, env, pos, h => by
    rw [List.all_cons, Bool.and_eq_true] at h
    rw [star_cons h.1]
    show (false || (backTo pos (starEach es env)).any (·.1)) = false
    rw [star_none h.2]
    rfl
theorem ix_plain {s : Expr} (h : isSlice s = false) : PlainIx s := fun o i => by
  cases s <;> first | rfl | cases h
theorem swaps_no {e : Expr} {t : Option Expr} {l : Nat} {env : Env} (h : isComp e = false) : swapsWith e t l env = pure false := by
  cases e <;> first | rfl | cases h
theorem test_plain {e : Expr} {env : Env} (h : plainTest e = true) (whole : Sem Value) : isTrue e env whole = (do let v ← whole; standAt e.pos; holding [v] (truthy v)) := by
  cases e with
  | UnaryOp op a p => cases op <;> first | rfl | cases h
  | _ => first | rfl | cases h
theorem fold_set {e : Expr} {env : Env} (h : isSetE e = false) (x : Value) : foldedSetIterable e env x = pure x := by
  cases e <;> first | rfl | cases h

/-! ### what comes of an expression -/
section
variable {mg : Str → Option Value} {K : PySem.W.Frag} {W : WX} {σ : L2.St} {ρ : Ro} {G H H0 : Hp} {Q : VK}
abbrev OutC (K : PySem.W.Frag) (σ : L2.St) (H0 : Hp) (Q : VK) : Bv → Ro → Hp → Hp → Prop := fun b ρ' G' H' => ∀ v, Out K H0 G' H' σ ρ' v b → Q v H'
theorem out_val {v : V} {d : D} (h : Post mg K W σ ρ G H (.ok (.va d false) ρ) (OutC K σ H0 Q)) (R : Rep K G H σ ρ) (i : Is K G v d) : Q v H :=
  h.here R v ⟨i, fun _ _ e _ => nomatch e⟩
theorem out_lst {p : Addr} {xs : List V} {ds : List D} (h : Post mg K W σ ρ G H (.ok (.va (.lst ds) true) ρ) (OutC K σ H0 Q)) (R : Rep K G H σ ρ) (hp : H p = none) (h0 : H0 p = none) (i : IsL K G xs ds) : Q (.ref p) (upd H p (.lst xs)) :=
  h G (upd H p (.lst xs)) (go_new hp) (Evo.refl ρ) (rep_new R hp) (.ref p) ⟨⟨p, rfl, ⟨R.gnone hp, xs, ds, rfl, upd_same, i⟩, new_un R hp⟩, fun _ a _ e => by cases e; exact h0⟩
theorem out_tup {p : Addr} {xs : List V} {ds : List D} (h : Post mg K W σ ρ G H (.ok (.va (.tup ds) false) ρ) (OutC K σ H0 Q)) (R : Rep K G H σ ρ) (hp : H p = none) (i : IsL K G xs ds) : Q (.ref p) (upd H p (.tup xs)) :=
  h (upd G p (.tup xs)) (upd H p (.tup xs)) (go_fix R hp) (Evo.refl ρ) (rep_fix R hp) (.ref p) ⟨.tup (.inl (.inl upd_same)) (i.mono (same_upd (R.gnone hp))), fun _ _ e _ => nomatch e⟩
end

/-! ### two-place operators -/
theorem rep_fold (xs : List Nat) : ∀ (k : Nat) (acc : List Nat), List.foldl (fun x1 x2 => x1 ++ x2) acc.toArray (List.replicate k xs.toArray) = (acc ++ (List.replicate k xs).flatten).toArray
  | 0, acc => by simp
  | k + 1, acc => by
    rw [List.replicate_succ, List.foldl_cons, List.replicate_succ, List.flatten_cons]
    have e : acc.toArray ++ xs.toArray = (acc ++ xs).toArray := by simp
    rw [e, rep_fold xs k (acc ++ xs), List.append_assoc]
theorem repS_fold (x : Str) (k : Nat) : (⟨(List.replicate k x.cps).foldl (· ++ ·) #[]⟩ : Str) = repS x k := by
  have := rep_fold x.cps.toList k []
  unfold repS
  simp only [List.nil_append, Array.toArray_toList] at this
  rw [← this]
theorem repS_len (x : Str) (k : Nat) : (repS x k).length = k * x.length := by
  show (List.replicate k x.cps.toList).flatten.toArray.size = k * x.cps.size
  simp
/-- a text times an int -/
theorem op_repS {X : Cx} : OpR X (binaryOp .Mult) (fun x y H Q => ∃ (z : Str) (k : Int), x = .str z ∧ y = .int k ∧ z.length * k.toNat ≤ sizeLine ∧ -(2 ^ 63) ≤ k ∧ k < 2 ^ 63 ∧ Q (.str (repS z k.toNat)) H) := by
  intro pins s σ H x y v u Q I rx ry h
  obtain ⟨z, k, rfl, rfl, hz, h1, h2, q⟩ := h
  obtain ⟨t, rfl⟩ := rx
  obtain ⟨t', rfl⟩ := ry
  have hr : (decide (k < -(2 ^ 63 : Int)) || decide (k ≥ 2 ^ 63)) = false := by
    rw [decide_eq_false (by omega), decide_eq_false (by omega)]; rfl
  refine PySem.P.mul_str hr (fun hk _ => ?_) (fun hk _ => ?_) ?_
  · have hk0 : 0 < k := by omega
    have e1 : (z.length : Int) * k ≤ 2 ^ 63 - 1 := by
      have e2 : ((z.length * k.toNat : Nat) : Int) = (z.length : Int) * k := by
        rw [Int.natCast_mul, Int.toNat_of_nonneg (by omega)]
      rw [← e2]
      have : (sizeLine : Nat) ≤ 2 ^ 63 - 1 := by decide
      have h3 : z.length * k.toNat ≤ 2 ^ 63 - 1 := Nat.le_trans hz this
      omega
    have e3 : (z.length : Int) ≤ (2 ^ 63 - 1) / k := (Int.le_ediv_iff_mul_le hk0).mpr e1
    omega
  · show decide (z.length * k.toNat > sizeLine) = false
    exact decide_eq_false (by omega)
  · split
    · rename_i hk
      have e : k.toNat = 0 := by omega
      refine ⟨Nat.zero_le _, .str (repS z k.toNat), H, I.tok _, ⟨s.toks, ?_⟩, q⟩
      rw [e]
      rfl
    · split
      · rename_i hk hc
        refine ⟨.str (repS z k.toNat), H, I, ⟨t, ?_⟩, q⟩
        have e : repS z k.toNat = z := by
          rcases Bool.or_eq_true_iff.mp hc with h | h
          · have : k = 1 := by simpa using h
            subst this
            unfold repS
            simp
          · have h' : z.cps.size = 0 := by simpa using (show (z.cps.size == 0) = true from h)
            have h2 : z.cps = #[] := Array.size_eq_zero_iff.mp h'
            unfold repS
            rw [h2]
            cases z with
            | mk a =>
              have h3 : a = #[] := h2
              subst h3
              simp
        rw [e]
      · rename_i hk hc
        have e := repS_fold z k.toNat
        refine ⟨?_, .str (repS z k.toNat), H, I.tok _, ⟨s.toks, ?_⟩, q⟩
        · rw [e, repS_len, Nat.mul_comm]
          exact hz
        · rw [e]
theorem binI_ok {X : Cx} {op : Operator} {i j z : Int} (h : binI op i j = some z) : ∃ r, OpR X (binaryOp op) r ∧ ∀ H Q, Q (.int z) H → r (.int i) (.int j) H Q := by
  cases op with
  | Add =>
    cases h
    exact ⟨_, op_add, fun H Q q => ⟨i, j, rfl, rfl, q⟩⟩
  | Sub =>
    cases h
    exact ⟨_, op_sub, fun H Q q => ⟨i, j, rfl, rfl, q⟩⟩
  | Mult =>
    have h' : (if mulOk i j then some (i * j) else none) = some z := h
    split at h'
    · rename_i c
      cases h'
      exact ⟨_, op_mulW, fun H Q q => ⟨i, j, rfl, rfl, (show CMulW i j from (of_decide_eq_true c : i.natAbs.log2 + j.natAbs.log2 < 1000000)), q⟩⟩
    · cases h'
  | FloorDiv =>
    have h' : (if divOk j then some (i / j) else none) = some z := h
    split at h'
    · rename_i c
      cases h'
      have c' := Bool.and_eq_true_iff.mp c
      exact ⟨_, op_fdivW, fun H Q q => ⟨i, j, rfl, rfl, ⟨of_decide_eq_true c'.1, of_decide_eq_true c'.2⟩, q⟩⟩
    · cases h'
  | Mod =>
    have h' : (if decide (0 < j) = true then some (i % j) else none) = some z := h
    split at h'
    · rename_i c
      cases h'
      exact ⟨_, op_mod, fun H Q q => ⟨i, j, rfl, rfl, of_decide_eq_true c, q⟩⟩
    · cases h'
  | Pow =>
    have h' : (if (decide (0 ≤ j) && decide (j ≤ 1000000) && decide (i.natAbs < 2 ^ 64)) = true then some (i ^ j.toNat) else none) = some z := h
    split at h'
    · rename_i c
      cases h'
      simp only [Bool.and_eq_true, decide_eq_true_eq] at c
      exact ⟨_, op_pow, fun H Q q => ⟨i, j, rfl, rfl, ⟨c.1.1, c.1.2, c.2⟩, q⟩⟩
    · cases h'
  | LShift =>
    have h' : (if (decide (0 ≤ j) && decide (j ≤ 1000000) && decide (i.natAbs < 2 ^ 64)) = true then some (i * 2 ^ j.toNat) else none) = some z := h
    split at h'
    · rename_i c
      cases h'
      simp only [Bool.and_eq_true, decide_eq_true_eq] at c
      exact ⟨_, op_shl, fun H Q q => ⟨i, j, rfl, rfl, ⟨c.1.1, c.1.2, c.2⟩, q⟩⟩
    · cases h'
  | RShift =>
    have h' : (if decide (0 ≤ j) = true then some (i / 2 ^ j.toNat) else none) = some z := h
    split at h'
    · rename_i c
      cases h'
      exact ⟨_, op_shr, fun H Q q => ⟨i, j, rfl, rfl, of_decide_eq_true c, q⟩⟩
    · cases h'
  | BitAnd =>
    cases h
    exact ⟨_, op_and, fun H Q q => ⟨i, j, rfl, rfl, q⟩⟩
  | BitOr =>
    cases h
    exact ⟨_, op_or, fun H Q q => ⟨i, j, rfl, rfl, q⟩⟩
  | _ => cases h
section
variable {X : Cx} {W : WX} {σ : L2.St} {ρ : Ro} {G H H0 : Hp} {vx vy : V} {dx dy z : D} {f : Bool}
theorem bin_ok {op : Operator} (hz : binD op dx dy = some (z, f)) (R : Rep X.K G H σ ρ) (ax : At X.K G H vx dx) (ay : At X.K G H vy dy) (th : ∀ a, H a = none → H0 a = none) :
    ∃ r : R2, OpR X (binaryOp op) r ∧ ∀ Q, Post X.mg X.K W σ ρ G H (.ok (.va z f) ρ) (OutC X.K σ H0 Q) → r vx vy H Q := by
  unfold binD at hz
  split at hz
  · rename_i i j
    cases e : binI op i j with
    | none => rw [e] at hz; cases hz
    | some w =>
      rw [e] at hz
      cases hz
      rw [ax.int, ay.int]
      obtain ⟨r, h1, h2⟩ := binI_ok (X := X) e
      exact ⟨r, h1, fun Q h => h2 H Q (out_val h R (.int w))⟩
  · rename_i xs ys
    cases op with
    | Add =>
      have hz' : (if szOk (xs.length + ys.length) then some (D.lst (xs ++ ys), true) else none) = some (z, f) := hz
      split at hz'
      · rename_i c
        cases hz'
        obtain ⟨a, us, rfl, h1, i1⟩ := ax.lst R.ex
        obtain ⟨b, ws, rfl, h2, i2⟩ := ay.lst R.ex
        exact ⟨_, op_cat, fun Q h => ⟨a, b, us, ws, rfl, rfl, h1, h2, by rw [i1.length, i2.length]; exact of_decide_eq_true c, fun p hp => out_lst h R hp (th p hp) (i1.append i2)⟩⟩
      · cases hz'
    | _ => cases hz
  · rename_i xs ys
    cases op with
    | Add =>
      have hz' : (if szOk (xs.length + ys.length) then some (D.tup (xs ++ ys), false) else none) = some (z, f) := hz
      split at hz'
      · rename_i c
        cases hz'
        obtain ⟨a, us, rfl, h1, i1⟩ := ax.tup R.ex
        obtain ⟨b, ws, rfl, h2, i2⟩ := ay.tup R.ex
        have l1 := i1.length
        have l2 := i2.length
        refine ⟨_, op_catA, fun Q h => ⟨a, b, us, ws, rfl, rfl, h1, h2, by rw [l1, l2]; exact of_decide_eq_true c, fun e => ?_, fun _ e => ?_, fun _ _ p hp => out_tup h R hp (i1.append i2)⟩⟩
        · subst e
          have e2 : xs = [] := List.length_eq_zero_iff.mp l1.symm
          subst e2
          exact out_val h R ay.isTup
        · subst e
          have e2 : ys = [] := List.length_eq_zero_iff.mp l2.symm
          subst e2
          rw [List.append_nil] at h
          exact out_val h R ax.isTup
      · cases hz'
    | _ => cases hz
  · rename_i x y
    cases op with
    | Add =>
      have hz' : (if szOk (x.length + y.length) then some (D.str (x ++ y), false) else none) = some (z, f) := hz
      split at hz'
      · rename_i c
        cases hz'
        rw [ax.str, ay.str]
        exact ⟨_, op_add_str, fun Q h => ⟨x, y, rfl, rfl, of_decide_eq_true c, out_val h R (.str _)⟩⟩
      · cases hz'
    | _ => cases hz
  · rename_i xs k
    cases op with
    | Mult =>
      have hz' : (if (szOk (xs.length * k.toNat) && decide (-(2 ^ 63) ≤ k) && decide (k < 2 ^ 63)) = true then some (D.lst (List.replicate k.toNat xs).flatten, true) else none) = some (z, f) := hz
      split at hz'
      · rename_i c
        cases hz'
        simp only [Bool.and_eq_true, decide_eq_true_eq] at c
        obtain ⟨a, us, rfl, h1, i1⟩ := ax.lst R.ex
        rw [ay.int]
        exact ⟨_, op_rep, fun Q h => ⟨a, k, us, rfl, rfl, h1, c.1.2, c.2, by rw [i1.length]; exact of_decide_eq_true c.1.1, fun p hp => out_lst h R hp (th p hp) (IsL.rep _ i1)⟩⟩
      · cases hz'
    | _ => cases hz
  · rename_i x k
    cases op with
    | Mult =>
      have hz' : (if (szOk (x.length * k.toNat) && decide (-(2 ^ 63) ≤ k) && decide (k < 2 ^ 63)) = true then some (D.str (repS x k.toNat), false) else none) = some (z, f) := hz
      split at hz'
      · rename_i c
        cases hz'
        simp only [Bool.and_eq_true, decide_eq_true_eq] at c
        rw [ax.str, ay.int]
        exact ⟨_, op_repS, fun Q h => ⟨x, k, rfl, rfl, of_decide_eq_true c.1.1, c.1.2, c.2, out_val h R (.str _)⟩⟩
      · cases hz'
    | _ => cases hz
  · cases hz
end

/-! ### comparisons -/
theorem lst_dp {K : PySem.W.Frag} {G H : Hp} {v : V} {ys : List D} (ex : Same G H) (p : plainDs ys = true) (h : At K G H v (.lst ys)) : Dp K H v (.list (toPys ys)) := At.dp (d := .lst ys) p ex h
theorem eqOk_l {x y : D} (h : eqOk x y = true) : plainD x = true := by
  simp only [eqOk, Bool.and_eq_true] at h
  exact h.1.1
theorem eqOk_r {x y : D} (h : eqOk x y = true) : plainD y = true := by
  simp only [eqOk, Bool.and_eq_true] at h
  exact h.1.2
theorem sign_is {x : D} {c : Nat} (h : signOf x = some c) : x = .str ⟨#[c]⟩ := by
  cases x with
  | str w =>
    simp only [signOf] at h
    split at h
    · rename_i d e
      cases h
      have : w = ⟨#[c]⟩ := by
        cases w with
        | mk a =>
          have e' : a.toList = [c] := e
          congr 1
          exact Array.toList_inj.mp e'
      rw [this]
    · cases h
  | _ => cases h
theorem mem_py (x : D) : ∀ ys : List D, ((toPys ys).any fun z => PyData.eqv z (toPy x)) = memD x ys
  | [] => rfl
  | y :: ys => by
    show (PyData.eqv (toPy y) (toPy x) || (toPys ys).any fun z => PyData.eqv z (toPy x)) = (eqD y x || memD x ys)
    rw [mem_py x ys]
    rfl
theorem depth_in {A : Around} {k : Nat} (hr : Room k A) {a b : Nat} (h : min a b ≤ 64) : A.units + 1 + min a b < cLine := by
  have := hr.un
  omega
theorem isNon_v {K : PySem.W.Frag} {G H : Hp} {v : V} {d : D} (h : At K G H v d) : decide (v = .non) = isNonD d := by
  rcases h with h | ⟨a, rfl, q⟩
  · cases h <;> rfl
  · obtain ⟨_, xs, ds, e, _⟩ := q
    subst e
    rfl
theorem eq_rule {X : Cx} {k : Nat} (hr : Room k X.A) {G H : Hp} {dx dy : D} (hq : eqOk dx dy = true) (σ : L2.St) :
    OpR X (compareOp .Eq) (fun x y H Q => Dp X.K H x (toPy dx) ∧ Dp X.K H y (toPy dy) ∧ Q (.bl (eqD dx dy)) H) := by
  intro pins s σ H x y v u Q I rx ry h
  obtain ⟨hd, he, q⟩ := h
  obtain ⟨as, r1⟩ := Dp.reads I _ x v hd rx
  obtain ⟨bs, r2⟩ := Dp.reads I _ y u he ry
  simp only [eqOk, Bool.and_eq_true, decide_eq_true_eq] at hq
  have hu := depth_in hr hq.2
  exact SeqAt.eq_plain r1 r2 (plain_toPy _) (plain_toPy _) (by omega) ⟨.bl _, H, I, rfl, q⟩
theorem ne_rule {X : Cx} {k : Nat} (hr : Room k X.A) {G H : Hp} {dx dy : D} (hq : eqOk dx dy = true) (σ : L2.St) :
    OpR X (compareOp .NotEq) (fun x y H Q => Dp X.K H x (toPy dx) ∧ Dp X.K H y (toPy dy) ∧ Q (.bl (!eqD dx dy)) H) := by
  intro pins s σ H x y v u Q I rx ry h
  obtain ⟨hd, he, q⟩ := h
  obtain ⟨as, r1⟩ := Dp.reads I _ x v hd rx
  obtain ⟨bs, r2⟩ := Dp.reads I _ y u he ry
  simp only [eqOk, Bool.and_eq_true, decide_eq_true_eq] at hq
  have hu := depth_in hr hq.2
  exact SeqAt.ne_plain r1 r2 (plain_toPy _) (plain_toPy _) (by omega) ⟨.bl _, H, I, rfl, q⟩
theorem in_rule {X : Cx} {k : Nat} (hr : Room k X.A) {dx : D} {ys : List D} {dy : D} (hy : dy = .lst ys ∨ dy = .tup ys) (hq : eqOk dx dy = true) :
    OpR X (compareOp .In) (fun x y H Q => Dp X.K H x (toPy dx) ∧ Dp X.K H y (toPy dy) ∧ Q (.bl (memD dx ys)) H) := by
  intro pins s σ H x y v u Q I rx ry h
  obtain ⟨hd, he, q⟩ := h
  obtain ⟨as, r1⟩ := Dp.reads I _ x v hd rx
  obtain ⟨bs, r2⟩ := Dp.reads I _ y u he ry
  simp only [eqOk, Bool.and_eq_true, decide_eq_true_eq] at hq
  have hq2 := hq.2
  rw [← mem_py] at q
  rcases hy with rfl | rfl
  · have e : (toPy (.lst ys)).depth = PyData.depthAll (toPys ys) + 1 := by
      show (PyData.list (toPys ys)).depth = _
      simp only [PyData.depth]
    have hu := hr.un
    exact SeqAt.in_list_data (show Reads s.heap u (.list (toPys ys)) bs from r2) r1 (plainAll_toPys ys) (plain_toPy _) (by omega) ⟨.bl _, H, I, rfl, q⟩
  · have e : (toPy (.tup ys)).depth = PyData.depthAll (toPys ys) + 1 := by
      show (PyData.tuple (toPys ys)).depth = _
      simp only [PyData.depth]
    have hu := hr.un
    exact SeqAt.in_tuple_data (show Reads s.heap u (.tuple (toPys ys)) bs from r2) r1 (plainAll_toPys ys) (plain_toPy _) (by omega) ⟨.bl _, H, I, rfl, q⟩
theorem notIn_rule {X : Cx} {k : Nat} (hr : Room k X.A) {dx : D} {ys : List D} {dy : D} (hy : dy = .lst ys ∨ dy = .tup ys) (hq : eqOk dx dy = true) :
    OpR X (compareOp .NotIn) (fun x y H Q => Dp X.K H x (toPy dx) ∧ Dp X.K H y (toPy dy) ∧ Q (.bl (!memD dx ys)) H) := by
  intro pins s σ H x y v u Q I rx ry h
  obtain ⟨hd, he, q⟩ := h
  obtain ⟨as, r1⟩ := Dp.reads I _ x v hd rx
  obtain ⟨bs, r2⟩ := Dp.reads I _ y u he ry
  simp only [eqOk, Bool.and_eq_true, decide_eq_true_eq] at hq
  have hq2 := hq.2
  rw [← mem_py] at q
  rcases hy with rfl | rfl
  · have e : (toPy (.lst ys)).depth = PyData.depthAll (toPys ys) + 1 := by
      show (PyData.list (toPys ys)).depth = _
      simp only [PyData.depth]
    have hu := hr.un
    exact SeqAt.notIn_list_data (show Reads s.heap u (.list (toPys ys)) bs from r2) r1 (plainAll_toPys ys) (plain_toPy _) (by omega) ⟨.bl _, H, I, rfl, q⟩
  · have e : (toPy (.tup ys)).depth = PyData.depthAll (toPys ys) + 1 := by
      show (PyData.tuple (toPys ys)).depth = _
      simp only [PyData.depth]
    have hu := hr.un
    exact SeqAt.notIn_tuple_data (show Reads s.heap u (.tuple (toPys ys)) bs from r2) r1 (plainAll_toPys ys) (plain_toPy _) (by omega) ⟨.bl _, H, I, rfl, q⟩
section
variable {X : Cx} {G H : Hp} {vx vy : V} {dx dy : D} {z : Bool} {k : Nat}
theorem cmp_ok {op : CmpOp} (hr : Room k X.A) (hz : cmpD op dx dy = some z) (ex : Same G H) (ax : At X.K G H vx dx) (ay : At X.K G H vy dy) :
    ∃ r : R2, OpR X (compareOp op) r ∧ ∀ Q : VK, Q (.bl z) H → r vx vy H Q := by
  cases op with
  | Eq =>
    have h : (if eqOk dx dy then some (eqD dx dy) else if sameDic dx dy then some true else none) = some z := hz
    split at h
    · rename_i c
      cases h
      exact ⟨_, eq_rule hr (G := G) (H := H) c [], fun Q q => ⟨ax.dp (eqOk_l c) ex, ay.dp (eqOk_r c) ex, q⟩⟩
    · split at h
      · rename_i c
        cases h
        cases dx <;> cases dy <;> first | cases c; done | skip
        rename_i i j i' j'
        simp only [sameDic, Bool.and_eq_true, decide_eq_true_eq] at c
        obtain ⟨rfl, rfl⟩ := c
        have a1 := ax.dicAt ex
        have a2 := ay.dicAt ex
        obtain ⟨a, rfl, ea⟩ := a1
        obtain ⟨b, rfl, eb⟩ := a2
        have hu := hr.un
        refine ⟨_, op_eq_dictA (by omega), fun Q q => ⟨a, b, _, _, rfl, rfl, ea, eb, rfl, fun p hp => ?_, q⟩⟩
        rw [List.mem_singleton.mp hp]
        exact ⟨by simp [valV], rfl⟩
      · cases h
  | NotEq =>
    have h : (if eqOk dx dy then some (!eqD dx dy) else none) = some z := hz
    split at h
    · rename_i c
      cases h
      exact ⟨_, ne_rule hr (G := G) (H := H) c [], fun Q q => ⟨ax.dp (eqOk_l c) ex, ay.dp (eqOk_r c) ex, q⟩⟩
    · cases h
  | Lt =>
    simp only [cmpD] at hz
    split at hz
    · cases hz
      rw [ax.int, ay.int]
      exact ⟨_, op_lt, fun Q q => ⟨_, _, rfl, rfl, q⟩⟩
    · cases hz
  | LtE =>
    simp only [cmpD] at hz
    split at hz
    · cases hz
      rw [ax.int, ay.int]
      exact ⟨_, op_le, fun Q q => ⟨_, _, rfl, rfl, q⟩⟩
    · cases hz
  | Gt =>
    simp only [cmpD] at hz
    split at hz
    · cases hz
      rw [ax.int, ay.int]
      exact ⟨_, op_gt, fun Q q => ⟨_, _, rfl, rfl, q⟩⟩
    · cases hz
  | GtE =>
    simp only [cmpD] at hz
    split at hz
    · cases hz
      rw [ax.int, ay.int]
      exact ⟨_, op_ge, fun Q q => ⟨_, _, rfl, rfl, q⟩⟩
    · cases hz
  | Is =>
    simp only [cmpD] at hz
    split at hz
    · cases hz
      rw [ay.non]
      exact ⟨_, op_isN, fun Q q => ⟨rfl, by rw [isNon_v ax]; exact q⟩⟩
    · cases hz
      rw [ax.bl, ay.bl]
      exact ⟨_, op_isBl, fun Q q => ⟨_, _, rfl, rfl, q⟩⟩
    · cases hz
  | IsNot =>
    simp only [cmpD] at hz
    split at hz
    · cases hz
      rw [ay.non]
      exact ⟨_, op_notN, fun Q q => ⟨rfl, by rw [isNon_v ax]; exact q⟩⟩
    · cases hz
      rw [ax.bl, ay.bl]
      exact ⟨_, op_notBl, fun Q q => ⟨_, _, rfl, rfl, q⟩⟩
    · cases hz
  | In =>
    simp only [cmpD] at hz
    split at hz
    · split at hz
      · rename_i c
        cases hz
        exact ⟨_, in_rule hr (.inl rfl) c, fun Q q => ⟨ax.dp (eqOk_l c) ex, ay.dp (eqOk_r c) ex, q⟩⟩
      · cases hz
    · split at hz
      · rename_i c
        cases hz
        exact ⟨_, in_rule hr (.inr rfl) c, fun Q q => ⟨ax.dp (eqOk_l c) ex, ay.dp (eqOk_r c) ex, q⟩⟩
      · cases hz
    · obtain ⟨c, ec, rfl⟩ := Option.map_eq_some_iff.mp hz
      obtain rfl := sign_is ec
      rw [ax.str, ay.str]
      exact ⟨_, op_in_sign, fun Q q => ⟨c, _, rfl, rfl, q⟩⟩
    · cases hz
  | NotIn =>
    simp only [cmpD] at hz
    split at hz
    · split at hz
      · rename_i c
        cases hz
        exact ⟨_, notIn_rule hr (.inl rfl) c, fun Q q => ⟨ax.dp (eqOk_l c) ex, ay.dp (eqOk_r c) ex, q⟩⟩
      · cases hz
    · split at hz
      · rename_i c
        cases hz
        exact ⟨_, notIn_rule hr (.inr rfl) c, fun Q q => ⟨ax.dp (eqOk_l c) ex, ay.dp (eqOk_r c) ex, q⟩⟩
      · cases hz
    · obtain ⟨c, ec, rfl⟩ := Option.map_eq_some_iff.mp hz
      obtain rfl := sign_is ec
      rw [ax.str, ay.str]
      exact ⟨_, op_notIn_sign, fun Q q => ⟨c, _, rfl, rfl, q⟩⟩
    · cases hz
/-! ### subscripts -/
theorem ix_ok {z : D} (hz : ixD dx dy = some z) (ex : Same G H) (ax : At X.K G H vx dx) (ay : At X.K G H vy dy) :
    ∃ r : R2, IxR X r ∧ ∀ Q : VK, (∀ v, Is X.K G v z → Q v H) → r vx vy H Q := by
  unfold ixD at hz
  split at hz
  · obtain ⟨a, us, rfl, h1, i1⟩ := ax.lst ex
    rw [ay.int]
    obtain ⟨v, e, i⟩ := i1.atI hz
    exact ⟨_, ix_list, fun Q q => ⟨a, us, _, v, rfl, rfl, .inl (.inl h1), e, q v i⟩⟩
  · obtain ⟨a, us, rfl, h1, i1⟩ := ax.scr ex
    rw [ay.int]
    obtain ⟨v, e, i⟩ := i1.atI hz
    exact ⟨_, ix_list, fun Q q => ⟨a, us, _, v, rfl, rfl, h1, e, q v i⟩⟩
  · obtain ⟨a, us, rfl, h1, i1⟩ := ax.tup ex
    rw [ay.int]
    obtain ⟨v, e, i⟩ := i1.atI hz
    exact ⟨_, ix_tup, fun Q q => ⟨a, us, _, v, rfl, rfl, h1, e, q v i⟩⟩
  · rename_i y i
    split at hz
    · rename_i c
      rw [ax.str, ay.int]
      cases e : atI y.cps.toList i with
      | none => rw [e] at hz; cases hz
      | some w =>
        rw [e] at hz
        cases hz
        exact ⟨_, ix_str, fun Q q => ⟨y, i, w, rfl, rfl, of_decide_eq_true c, e, q _ (.str _)⟩⟩
    · cases hz
  · cases hz
end
section
variable {X : Cx} {W : WX} {σ : L2.St} {ρ : Ro} {G H H0 : Hp} {vx : V} {dx z : D} {f : Bool}
theorem cut_ok {lo hi : Option Int} (hz : cutD dx lo hi = some (z, f)) (R : Rep X.K G H σ ρ) (ax : At X.K G H vx dx) (th : ∀ a, H a = none → H0 a = none) :
    ∃ r : V → Option Int → Option Int → Hp → VK → Prop, SlR X r ∧ ∀ Q, Post X.mg X.K W σ ρ G H (.ok (.va z f) ρ) (OutC X.K σ H0 Q) → r vx lo hi H Q := by
  unfold cutD at hz
  split at hz
  · cases hz
    obtain ⟨a, us, rfl, h1, i1⟩ := ax.lst R.ex
    exact ⟨_, sl_list, fun Q h => ⟨a, us, rfl, .inl (.inl h1), fun p hp => out_lst h R hp (th p hp) (i1.cut _ _)⟩⟩
  · rename_i xs
    cases hz
    have it := ax.isTup
    obtain ⟨a, us, rfl, h1, i1⟩ := ax.tup R.ex
    refine ⟨_, sl_tupA, fun Q h => ⟨a, us, rfl, h1, fun e => ?_, fun _ p hp => out_tup h R hp (i1.cut _ _)⟩⟩
    have e2 : cutX xs lo hi = xs := by
      unfold cutX
      rw [i1.length] at e
      rw [e.1, e.2, List.drop_zero, Nat.sub_zero, List.take_length]
    rw [e2] at h
    exact out_val h R it
  · split at hz
    · rename_i c
      cases hz
      rw [ax.str]
      exact ⟨_, sl_str, fun Q h => ⟨_, rfl, of_decide_eq_true c, out_val h R (.str _)⟩⟩
    · cases hz
  · cases hz
end
end VE
end

section
set_option Elab.async false
set_option linter.all false
set_option maxRecDepth 100000
set_option maxHeartbeats 1000000
/-! VE2: truth, built-in functions, arguments. -/
namespace VE
open PySem PySem.Spec L2

theorem emp_eq {K : PySem.W.Frag} {G : Hp} {us : List V} {ds : List D} (i : IsL K G us ds) : us.isEmpty = ds.isEmpty := by
  cases i <;> rfl
theorem tru_ok' {K : PySem.W.Frag} {G H : Hp} {v : V} {d : D} {b : Bool} (ex : Same G H) (h : truD d = some b) (a : At K G H v d) : TruV K v H b := by
  cases d with
  | non =>
    cases h
    rw [a.non]
    rfl
  | bl b' =>
    cases h
    rw [a.bl]
    rfl
  | int i =>
    cases h
    rw [a.int]
    rfl
  | str y =>
    simp only [truD] at h
    split at h
    · rename_i c
      cases h
      rw [a.str]
      exact ⟨c, rfl⟩
    · cases h
  | tup ds =>
    cases h
    obtain ⟨p, us, rfl, h1, i⟩ := a.tup ex
    exact .inr (.inl ⟨us, h1, by rw [emp_eq i]⟩)
  | lst ds =>
    cases h
    obtain ⟨p, us, rfl, h1, i⟩ := a.lst ex
    exact .inl ⟨us, .inl (.inl h1), by rw [emp_eq i]⟩
  | scr ds =>
    cases h
    obtain ⟨p, us, rfl, h1, i⟩ := a.scr ex
    exact .inl ⟨us, h1, by rw [emp_eq i]⟩
  | obj c fs => cases h
  | dic i j => cases h

inductive AtL (K : PySem.W.Frag) (G H : Hp) : List V → List D → Prop
  | nil : AtL K G H [] []
  | cons {v : V} {d : D} {vs : List V} {ds : List D} (h : At K G H v d) (r : AtL K G H vs ds) : AtL K G H (v :: vs) (d :: ds)
theorem IsL.at {K : PySem.W.Frag} {G H : Hp} : ∀ {vs : List V} {ds : List D}, IsL K G vs ds → AtL K G H vs ds
  | _, _, .nil => .nil
  | _, _, .cons h r => .cons (.inl h) (IsL.at r)
theorem DenA.deref {K : PySem.W.Frag} {G H : Hp} {σ : L2.St} {ρ : Ro} (R : Rep K G H σ ρ) : ∀ {vs : List V} {bs : List Bv} {ds : List D}, DenA K G σ vs bs → bs.mapM (VE.deref ρ) = some ds → AtL K G H vs ds
  | _, _, ds, .nil, h => by
    simp at h
    subst h
    exact .nil
  | _, _, ds, .at (i := i) (bs := bs) h r, e => by
    rw [List.mapM_cons] at e
    cases e1 : VE.deref ρ (.at i) with
    | none => rw [e1] at e; cases e
    | some d =>
      rw [e1] at e
      cases e2 : bs.mapM (VE.deref ρ) with
      | none => rw [e2] at e; cases e
      | some es =>
        rw [e2] at e
        cases e
        exact .cons (Den.deref (b := .at i) R h e1) (DenA.deref R r e2)
  | _, _, ds, .va (d := d0) (bs := bs) h r, e => by
    rw [List.mapM_cons] at e
    cases e2 : bs.mapM (VE.deref ρ) with
    | none => rw [e2] at e; cases e
    | some es =>
      rw [e2] at e
      cases e
      exact .cons (.inl h) (DenA.deref R r e2)
theorem sum_vs {K : PySem.W.Frag} {G : Hp} : ∀ {us : List V} {ds : List D} {ns : List Int}, sumI ds = some ns → IsL K G us ds → us = ns.map V.int
  | _, [], _, h, .nil => by cases h; rfl
  | _, .int i :: r, ns, h, .cons (.int _) q => by
    simp only [sumI] at h
    cases e : sumI r with
    | none => rw [e] at h; cases h
    | some ms =>
      rw [e] at h
      cases h
      rw [sum_vs e q]
      rfl
theorem all_vs {K : PySem.W.Frag} {G : Hp} : ∀ {us : List V} {ds : List D} {ns : List Bool}, allB ds = some ns → IsL K G us ds → us = ns.map V.bl
  | _, [], _, h, .nil => by cases h; rfl
  | _, .bl i :: r, ns, h, .cons (.bl _) q => by
    simp only [allB] at h
    cases e : allB r with
    | none => rw [e] at h; cases h
    | some ms =>
      rw [e] at h
      cases h
      rw [all_vs e q]
      rfl
section
variable {X : Cx} {W : WX} {σ : L2.St} {ρ : Ro} {G H H0 : Hp} {vs : List V} {ds : List D} {z : D} {f : Bool}
/-- a built-in's answer -/
def BiOk (X : Cx) (x : Str) (W : WX) (σ : L2.St) (ρ : Ro) (G H H0 : Hp) (vs : List V) (z : D) (f : Bool) : Prop :=
  (∃ id r, bootBuiltins x = some (.builtin id) ∧ CallR X (.builtin id) r ∧ ∀ Q, Post X.mg X.K W σ ρ G H (.ok (.va z f) ρ) (OutC X.K σ H0 Q) → r vs H Q) ∨
  (∃ T r, bootBuiltins x = some (.type T) ∧ CallR X (.type T) r ∧ ∀ Q, Post X.mg X.K W σ ρ G H (.ok (.va z f) ρ) (OutC X.K σ H0 Q) → r vs H Q)
theorem bi_ok {x : Str} (hz : biD x ds = some (z, f)) (hc : X.calm = true) (R : Rep X.K G H σ ρ) (a : AtL X.K G H vs ds) (th : ∀ a, H a = none → H0 a = none) : BiOk X x W σ ρ G H H0 vs z f := by
  unfold biD at hz
  by_cases h1 : x = "len"
  · subst h1
    rw [if_pos rfl] at hz
    split at hz
    · cases hz
      cases a with | cons a r => cases r with | nil =>
      obtain ⟨p, us, rfl, q1, i⟩ := a.lst R.ex
      exact .inl ⟨_, _, PySem.boot_len, call_len_seq, fun Q h => ⟨p, us, rfl, .inl (.inl (.inl q1)), by rw [i.length]; exact out_val h R (.int _)⟩⟩
    · cases hz
      cases a with | cons a r => cases r with | nil =>
      obtain ⟨p, us, rfl, q1, i⟩ := a.scr R.ex
      exact .inl ⟨_, _, PySem.boot_len, call_len_seq, fun Q h => ⟨p, us, rfl, .inl q1, by rw [i.length]; exact out_val h R (.int _)⟩⟩
    · cases hz
      cases a with | cons a r => cases r with | nil =>
      obtain ⟨p, us, rfl, q1, i⟩ := a.tup R.ex
      exact .inl ⟨_, _, PySem.boot_len, call_len_seq, fun Q h => ⟨p, us, rfl, .inr q1, by rw [i.length]; exact out_val h R (.int _)⟩⟩
    · split at hz
      · rename_i c
        cases hz
        cases a with | cons a r => cases r with | nil =>
        rw [a.str]
        exact .inl ⟨_, _, PySem.boot_len, call_len_str, fun Q h => ⟨_, rfl, of_decide_eq_true c, out_val h R (.int _)⟩⟩
      · cases hz
    · cases hz
  rw [if_neg h1] at hz
  by_cases h2 : x = "abs"
  · subst h2
    rw [if_pos rfl] at hz
    split at hz
    · cases hz
      cases a with | cons a r => cases r with | nil =>
      rw [a.int]
      exact .inl ⟨"abs", _, by decide +kernel, call_abs, fun Q h => ⟨_, rfl, out_val h R (.int _)⟩⟩
    · cases hz
  rw [if_neg h2] at hz
  by_cases h3 : x = "int"
  · subst h3
    rw [if_pos rfl] at hz
    split at hz
    · cases hz
      cases a with | cons a r => cases r with | nil =>
      rw [a.int]
      exact .inr ⟨"int", _, by decide +kernel, call_int1, fun Q h => .inl ⟨_, rfl, out_val h R (.int _)⟩⟩
    · cases hz
      cases a with | cons a r => cases r with | nil =>
      rw [a.bl]
      exact .inr ⟨"int", _, by decide +kernel, call_int1, fun Q h => .inr ⟨_, rfl, out_val h R (.int _)⟩⟩
    · cases hz
  rw [if_neg h3] at hz
  by_cases h4 : x = "str"
  · subst h4
    rw [if_pos rfl] at hz
    split at hz
    · split at hz
      · rename_i c
        cases hz
        cases a with | cons a r => cases r with | nil =>
        rw [a.int]
        exact .inr ⟨"str", _, by decide +kernel, call_str_int, fun Q h => ⟨_, rfl, of_decide_eq_true c, out_val h R (.str _)⟩⟩
      · cases hz
    · cases hz
  rw [if_neg h4] at hz
  by_cases h5 : x = "tuple"
  · subst h5
    rw [if_pos rfl] at hz
    split at hz
    · cases hz
      cases a with | cons a r => cases r with | nil =>
      obtain ⟨p, us, rfl, q1, i⟩ := a.lst R.ex
      exact .inr ⟨"tuple", _, by decide +kernel, call_tuple_of, fun Q h => ⟨p, us, rfl, .inl ⟨.inl (.inl q1), fun l hl => out_tup h R hl i⟩⟩⟩
    · cases hz
      cases a with | cons a r => cases r with | nil =>
      obtain ⟨p, us, rfl, q1, i⟩ := a.scr R.ex
      exact .inr ⟨"tuple", _, by decide +kernel, call_tuple_of, fun Q h => ⟨p, us, rfl, .inl ⟨q1, fun l hl => out_tup h R hl i⟩⟩⟩
    · cases hz
      cases a with | cons a r => cases r with | nil =>
      have it := a.isTup
      obtain ⟨p, us, rfl, q1, i⟩ := a.tup R.ex
      exact .inr ⟨"tuple", _, by decide +kernel, call_tuple_of, fun Q h => ⟨p, us, rfl, .inr ⟨q1, out_val h R it⟩⟩⟩
    · cases hz
  rw [if_neg h5] at hz
  by_cases h6 : x = "list"
  · subst h6
    rw [if_pos rfl] at hz
    split at hz
    · cases hz
      cases a with | cons a r => cases r with | nil =>
      obtain ⟨p, us, rfl, q1, i⟩ := a.lst R.ex
      exact .inr ⟨"list", _, by decide +kernel, call_list_of, fun Q h => ⟨p, us, rfl, .inl (.inl (.inl q1)), fun l hl => out_lst h R hl (th l hl) i⟩⟩
    · cases hz
      cases a with | cons a r => cases r with | nil =>
      obtain ⟨p, us, rfl, q1, i⟩ := a.scr R.ex
      exact .inr ⟨"list", _, by decide +kernel, call_list_of, fun Q h => ⟨p, us, rfl, .inl q1, fun l hl => out_lst h R hl (th l hl) i⟩⟩
    · cases hz
      cases a with | cons a r => cases r with | nil =>
      obtain ⟨p, us, rfl, q1, i⟩ := a.tup R.ex
      exact .inr ⟨"list", _, by decide +kernel, call_list_of, fun Q h => ⟨p, us, rfl, .inr q1, fun l hl => out_lst h R hl (th l hl) i⟩⟩
    · cases hz
  rw [if_neg h6] at hz
  by_cases h7 : x = "sum"
  · subst h7
    rw [if_pos rfl] at hz
    split at hz
    · rename_i xs
      cases e : sumI xs with
      | none => rw [e] at hz; cases hz
      | some ns =>
        rw [e] at hz
        cases hz
        cases a with | cons a r => cases r with | nil =>
        obtain ⟨p, us, rfl, q1, i⟩ := a.lst R.ex
        rw [sum_vs e i] at q1
        exact .inl ⟨"sum", _, by decide +kernel, cr_sum hc, fun Q h => ⟨p, ns, rfl, .inl (.inl q1), out_val h R (.int _)⟩⟩
    · cases hz
  rw [if_neg h7] at hz
  by_cases h8 : x = "any"
  · subst h8
    rw [if_pos rfl] at hz
    split at hz
    · rename_i xs
      cases e : allB xs with
      | none => rw [e] at hz; cases hz
      | some ns =>
        rw [e] at hz
        cases hz
        cases a with | cons a r => cases r with | nil =>
        obtain ⟨p, us, rfl, q1, i⟩ := a.lst R.ex
        rw [all_vs e i] at q1
        exact .inl ⟨"any", _, by decide +kernel, cr_any hc, fun Q h => ⟨p, ns, rfl, .inl (.inl q1), out_val h R (.bl _)⟩⟩
    · cases hz
  rw [if_neg h8] at hz
  by_cases h9 : x = "all"
  · subst h9
    rw [if_pos rfl] at hz
    split at hz
    · rename_i xs
      cases e : allB xs with
      | none => rw [e] at hz; cases hz
      | some ns =>
        rw [e] at hz
        cases hz
        cases a with | cons a r => cases r with | nil =>
        obtain ⟨p, us, rfl, q1, i⟩ := a.lst R.ex
        rw [all_vs e i] at q1
        exact .inl ⟨"all", _, by decide +kernel, cr_all hc, fun Q h => ⟨p, ns, rfl, .inl (.inl q1), out_val h R (.bl _)⟩⟩
    · cases hz
  rw [if_neg h9] at hz
  by_cases h10 : x = "max"
  · subst h10
    rw [if_pos rfl] at hz
    split at hz
    · cases hz
      cases a with | cons a r => cases r with | cons a' r => cases r with | nil =>
      rw [a.int, a'.int]
      exact .inl ⟨"max", _, by decide +kernel, call_max2 hc, fun Q h => ⟨_, _, rfl, out_val h R (.int _)⟩⟩
    · cases hz
  rw [if_neg h10] at hz
  by_cases h11 : x = "min"
  · subst h11
    rw [if_pos rfl] at hz
    split at hz
    · cases hz
      cases a with | cons a r => cases r with | cons a' r => cases r with | nil =>
      rw [a.int, a'.int]
      exact .inl ⟨"min", _, by decide +kernel, call_min2 hc, fun Q h => ⟨_, _, rfl, out_val h R (.int _)⟩⟩
    · cases hz
  rw [if_neg h11] at hz
  cases hz
end
/-! ### a value as a whole -/
section
variable {α : Type} {mg : Str → Option Value} {K : PySem.W.Frag} {W : WX} {σ : L2.St} {ρ ρ1 : Ro} {G H G1 H1 : Hp}
theorem Post.later {r : Rs α} {C : α → Ro → Hp → Hp → Prop} (h : Post mg K W σ ρ G H r C) (g : Go σ ρ G H σ ρ1 G1 H1) (e : Evo ρ ρ1) : Post mg K W σ ρ1 G1 H1 r C := by
  cases r with
  | stuck => exact h
  | exc c fs ρ2 => exact fun cls dd G2 H2 g2 e2 R2 x => h cls dd G2 H2 (g.trans g2) (e.trans e2) R2 x
  | ok b ρ2 => exact fun G2 H2 g2 e2 R2 => h G2 H2 (g.trans g2) (e.trans e2) R2
theorem PostF.later {r : Rf} {D : Ends} {σ1 : L2.St} (h : PostF mg K W σ ρ G H r D) (g : Go σ ρ G H σ1 ρ1 G1 H1) : PostF mg K W σ1 ρ1 G1 H1 r D := by
  cases r with
  | stuck => exact h
  | exc c fs ρ2 => exact fun cls dd σ2 G2 H2 g2 R2 x => h cls dd σ2 G2 H2 (g.trans g2) R2 x
  | next ρ2 => exact fun σ2 G2 H2 g2 R2 => h σ2 G2 H2 (g.trans g2) R2
  | brk ρ2 => exact fun σ2 G2 H2 g2 R2 => h σ2 G2 H2 (g.trans g2) R2
  | cnt ρ2 => exact fun σ2 G2 H2 g2 R2 => h σ2 G2 H2 (g.trans g2) R2
  | ret b ρ2 => exact fun v σ2 G2 H2 g2 R2 dn nw => h v σ2 G2 H2 (g.trans g2) R2 dn fun d a e1 e2 => g.there a (nw d a e1 e2)
/-- a new list is fixed -/
theorem fix_tmp {a : Addr} {xs : List V} {ds : List D} (R : Rep K G1 H1 σ ρ1) (g : Go σ ρ G H σ ρ1 G1 H1) (c1 : G1 a = none) (c3 : H1 a = some (.lst xs)) (c4 : IsL K G1 xs ds) (n : ∀ i, ¬ OwAt σ ρ1 i a) (h0 : H a = none) :
    Go σ ρ G H σ ρ1 (upd G1 a (.lst xs)) H1 ∧ Rep K (upd G1 a (.lst xs)) H1 σ ρ1 ∧ Is K (upd G1 a (.lst xs)) (.ref a) (.lst ds) := by
  have sg : Same G1 (upd G1 a (.lst xs)) := same_upd c1
  refine ⟨⟨g.g.trans sg, g.keep, fun x u e q m => ?_, g.own, g.pin, g.there⟩, ⟨fun x u e => ?_, R.len, fun j s e => ?_, R.dj⟩, .lst upd_same (c4.mono sg)⟩
  · rw [upd_ne (ne_of_none e h0)]
    exact g.fr x u e q m
  · by_cases q : x = a
    · subst q; rw [upd_same] at e; rw [← e]; exact c3
    · rw [upd_ne q] at e; exact R.ex x u e
  · refine (R.sl j s e).later sg fun m x d es ex ⟨k1, ys, es', k2, k3, k4⟩ => ⟨?_, ys, es', k2, k3, k4.mono sg⟩
    rw [upd_ne fun z => n j ⟨m, d, by rw [e, es], by rw [ex, z]⟩]
    exact k1
theorem whole_of {b : Bv} {v : V} (R : Rep K G1 H1 σ ρ1) (g : Go σ ρ G H σ ρ1 G1 H1) (e : Evo ρ ρ1) (o : Out K H G1 H1 σ ρ1 v b) {d : D} {ρ2 : Ro} (hw : whole b ρ1 = .ok d ρ2) :
    ∃ G2, Go σ ρ G H σ ρ2 G2 H1 ∧ Evo ρ ρ2 ∧ Rep K G2 H1 σ ρ2 ∧ Is K G2 v d := by
  obtain ⟨dn, nw⟩ := o
  cases b with
  | va d' f =>
    cases hw
    cases f with
    | false => exact ⟨G1, g, e, R, dn⟩
    | true =>
      obtain ⟨a, rfl, ⟨c1, xs, ds, rfl, c3, c4⟩, n⟩ := dn
      obtain ⟨h1, h2, h3⟩ := fix_tmp R g c1 c3 c4 n (nw _ a rfl rfl)
      exact ⟨_, h1, e, h2, h3⟩
  | «at» i =>
    have hv : σ[i]? = some (some v) := dn
    unfold whole at hw
    cases q : ρ1[i]? with
    | none => simp only [q] at hw; cases hw
    | some s =>
      have z := R.sl i s q
      rw [hv] at z
      cases s with
      | un => simp only [q] at hw; cases hw
      | fz d' =>
        simp only [q] at hw
        cases hw
        obtain ⟨v', e1, e2⟩ := z
        cases e1
        exact ⟨G1, g, e, R, e2⟩
      | pz d' =>
        simp only [q] at hw
        cases hw
        obtain ⟨a, xs, ds, e1, e2, e3, e4⟩ := z
        cases e1
        subst e2
        exact ⟨G1, g, e, R, .lst e3 e4⟩
      | ow m d' =>
        cases m with
        | own =>
          simp only [q] at hw
          cases hw
          obtain ⟨a, xs, ds, e1, rfl, e3, e4, go, R2⟩ := freeze R q (by decide)
          rw [hv] at e1
          cases e1
          exact ⟨_, g.trans go, e.trans (evo_freeze (m := .own) q), R2, .lst upd_same (e4.mono go.g)⟩
        | par =>
          simp only [q] at hw
          cases hw
          obtain ⟨a, xs, ds, e1, rfl, e3, e4, go, R2⟩ := freeze R q (by decide)
          rw [hv] at e1
          cases e1
          exact ⟨_, g.trans go, e.trans (evo_freeze (m := .par) q), R2, .lst upd_same (e4.mono go.g)⟩
        | lck =>
          simp only [q] at hw
          cases hw
theorem whole_noexc {b : Bv} {ρ : Ro} {c : Str} {fs : List (Str × D)} {ρ' : Ro} (q : whole b ρ = .exc c fs ρ') : False := by
  cases b with
  | va d f => cases q
  | «at» i =>
    simp only [whole] at q
    split at q <;> cases q
theorem Post.bindW {β : Type} {r : Rs Bv} {k : D → Ro → Rs β} {C : β → Ro → Hp → Hp → Prop} (h : Post mg K W σ ρ G H (r.bind fun b ρ1 => (whole b ρ1).bind k) C) :
    Post mg K W σ ρ G H r fun b ρ1 G1 H1 => ∀ v, Out K H G1 H1 σ ρ1 v b → ∃ d ρ2 G2, Go σ ρ G H σ ρ2 G2 H1 ∧ Evo ρ ρ2 ∧ Rep K G2 H1 σ ρ2 ∧ Is K G2 v d ∧ Post mg K W σ ρ2 G2 H1 (k d ρ2) C := by
  cases r with
  | stuck => exact h
  | exc c fs ρ' => exact h
  | ok b ρ1 =>
    intro G1 H1 g1 e1 R1 v o
    have h' : Post mg K W σ ρ G H ((whole b ρ1).bind k) C := h
    cases q : whole b ρ1 with
    | stuck => rw [q] at h'; exact h'.elim
    | exc c fs ρ' =>
      exact (whole_noexc q).elim
    | ok d ρ2 =>
      rw [q] at h'
      obtain ⟨G2, go, ev, R2, i⟩ := whole_of R1 g1 e1 o q
      exact ⟨d, ρ2, G2, go, ev, R2, i, Post.later (r := k d ρ2) h' go ev⟩
theorem PostF.bindW {r : Rs Bv} {k : D → Ro → Rf} {D' : Ends} (h : PostF mg K W σ ρ G H (r.toF fun b ρ1 => (whole b ρ1).toF k) D') :
    Post mg K W σ ρ G H r fun b ρ1 G1 H1 => ∀ v, Out K H G1 H1 σ ρ1 v b → ∃ d ρ2 G2, Go σ ρ G H σ ρ2 G2 H1 ∧ Evo ρ ρ2 ∧ Rep K G2 H1 σ ρ2 ∧ Is K G2 v d ∧ PostF mg K W σ ρ2 G2 H1 (k d ρ2) D' := by
  cases r with
  | stuck => exact h
  | exc c fs ρ' => exact fun cls dd G' H' g _ R x => h cls dd σ G' H' g R x
  | ok b ρ1 =>
    intro G1 H1 g1 e1 R1 v o
    have h' : PostF mg K W σ ρ G H ((whole b ρ1).toF k) D' := h
    cases q : whole b ρ1 with
    | stuck => rw [q] at h'; exact h'.elim
    | exc c fs ρ' =>
      exact (whole_noexc q).elim
    | ok d ρ2 =>
      rw [q] at h'
      obtain ⟨G2, go, ev, R2, i⟩ := whole_of R1 g1 e1 o q
      exact ⟨d, ρ2, G2, go, ev, R2, i, PostF.later (r := k d ρ2) h' go⟩
end
end VE
end

section
set_option Elab.async false
set_option linter.all false
set_option maxRecDepth 100000
set_option maxHeartbeats 1000000
/-! VE3: the simple expressions. -/
namespace VE
open PySem PySem.Spec L2

section
variable {M : Mdl} {N : List Str} {sc : Scope} {k : Nat} {X : Cx} {W : WX}
theorem ixN_get {N : List Str} {x : Str} {i : Nat} (h : ixN? N x = some i) : N[i]? = some x := by
  unfold ixN? at h
  rw [List.findIdx?_eq_some_iff_getElem] at h
  obtain ⟨hi, e, _⟩ := h
  rw [List.getElem?_eq_getElem hi, eq_of_beq e]
theorem nameOk_dbg {x : Str} (h : nameOk x = true) : (x == ("__debug__" : Str)) = false := by
  simp only [nameOk, Bool.and_eq_true, Bool.not_eq_true'] at h
  exact h.1.1
theorem nameOk_cd {x : Str} (h : nameOk x = true) : (x == ("__classdict__" : Str)) = false := by
  simp only [nameOk, Bool.and_eq_true, Bool.not_eq_true'] at h
  exact h.1.2
theorem nameOk_nm {x : Str} (h : nameOk x = true) : x ≠ "__name__" := by
  simp only [nameOk, Bool.and_eq_true, Bool.not_eq_true'] at h
  exact fun e => by
    have := h.2
    rw [e] at this
    simp at this
theorem vis_name {x : Str} (h : visK sc x = true) : nameOk x = true := (Bool.and_eq_true_iff.mp h).1
theorem glo_name {x : Str} (h : gloK sc x = true) : nameOk x = true := (Bool.and_eq_true_iff.mp h).1
theorem XOk.vis (O : XOk M N sc k X W) {x : Str} (h : visK sc x = true) : Vis X.env.scope x := by
  have h2 := (Bool.and_eq_true_iff.mp h).2
  rcases O.rel x with e | ⟨e1, e2⟩
  · unfold Vis
    rw [e]
    split at h2
    · rename_i q; exact .inl q
    · rename_i q; exact .inr (.inl q)
    · rename_i q; exact .inr (.inr q)
    · cases h2
  · exact .inr (.inl e2)
theorem XOk.glo (O : XOk M N sc k X W) {x : Str} (h : gloK sc x = true) : Gl X x := by
  have h2 := (Bool.and_eq_true_iff.mp h).2
  split at h2
  · rename_i q
    rcases O.rel x with e | ⟨e1, e2⟩
    · show X.env.scope.names.lookup x = some .globalImplicit
      rw [e]
      exact q
    · rw [q] at e1
      cases e1
  · cases h2
theorem XOk.loc (O : XOk M N sc k X W) {x : Str} (h : locK sc x = true) : Loc X.env.scope x ∧ (X.fn x = true ∨ X.env.scope.names.lookup x = some .local) := by
  unfold locK at h
  split at h
  · rename_i q
    rcases O.rel x with e | ⟨e1, e2⟩
    · rw [q] at e
      exact ⟨.inl e, .inr e⟩
    · rw [q] at e1
      cases e1
  · rename_i q
    rcases O.rel x with e | ⟨e1, e2⟩
    · exact ⟨.inr (e.trans q), .inl (O.fn x q)⟩
    · rw [q] at e1
      cases e1
  · cases h
end

section
variable {M : Mdl} {N : List Str} {E : Ev} {sc : Scope} {k : Nat} {X : Cx} {W : WX} {σ : L2.St} {ρ : Ro} {G H : Hp} {Q : VK}
theorem snd_name {x : Str} {p : Pos} (O : XOk M N sc k X W) (R : Rep X.K G H σ ρ) (h : Post X.mg X.K W σ ρ G H (stepE M N E sc (.Name x p) ρ) (OutC X.K σ H Q)) : WE X (.Name x p) σ H Q := by
  simp only [stepE] at h
  split at h
  · rename_i hv
    split at h
    · exact h.elim
    · rename_i i hi
      have hN : X.N[i]? = some x := by rw [O.nm]; exact ixN_get hi
      refine WE.mk (pe_var hN (O.vis hv) (nameOk_dbg (vis_name hv)) (nameOk_cd (vis_name hv))) ?_
      split at h
      · rename_i d e
        obtain ⟨v, e1, i1⟩ := R.sl i _ e
        exact ⟨v, e1, out_val h R i1⟩
      · rename_i d e
        obtain ⟨a, xs, ds, e1, rfl, e3, e4⟩ := R.sl i _ e
        exact ⟨.ref a, e1, out_val h R (.lst e3 e4)⟩
      · rename_i m d e
        obtain ⟨a, e1, _⟩ := R.sl i _ e
        exact ⟨.ref a, e1, h.here R (.ref a) ⟨e1, fun _ _ q _ => nomatch q⟩⟩
      · exact h.elim
  · split at h
    · rename_i hg
      split at h
      · rename_i d hd
        obtain ⟨u, v, hm, r, i⟩ := O.md.con x d hd
        exact WE.mk (pe_glob (O.glo hg) hm r (nameOk_dbg (glo_name hg))) (out_val h R (i G))
      · exact h.elim
    · exact h.elim
theorem snd_const {c : Const} {j : Nat} {p : Pos} (R : Rep X.K G H σ ρ) (h : Post X.mg X.K W σ ρ G H (stepE M N E sc (.Constant c j p) ρ) (OutC X.K σ H Q)) : WE X (.Constant c j p) σ H Q := by
  simp only [stepE] at h
  split at h
  · exact WE.mk pe_int (out_val h R (.int _))
  · exact WE.mk pe_bl (out_val h R (.bl _))
  · exact WE.mk pe_non (out_val h R .non)
  · exact WE.mk pe_str (out_val h R (.str _))
  · exact h.elim
variable (S : Snd M N E)
include S
theorem snd_bin {a b : Expr} {op : Operator} {p : Pos} (O : XOk M N sc k X W) (R : Rep X.K G H σ ρ) (h : Post X.mg X.K W σ ρ G H (stepE M N E sc (.BinOp a op b p) ρ) (OutC X.K σ H Q)) : WE X (.BinOp a op b p) σ H Q := by
  simp only [stepE] at h
  have key : ∃ r : R2, OpR X (binaryOp op) r ∧ WE X a σ H fun x H1 => WE X b σ H1 fun y H2 => r x y H2 Q := by
    refine ⟨fun x y H Q => ∃ r : R2, OpR X (binaryOp op) r ∧ r x y H Q, fun pins s σ H x y v u Q I rx ry ⟨r, hr, q⟩ => hr pins s σ H x y v u Q I rx ry q, ?_⟩
    refine S.e O R (h.bind.imp fun x ρ1 G1 H1 _ g1 e1 R1 h1 vx ox => ?_)
    refine S.e O R1 (h1.bind.imp fun y ρ2 G2 H2 _ g2 e2 R2 h2 vy oy => ?_)
    obtain ⟨z, hz, h3⟩ := Post.of_none h2
    have dx := ox.1.go g2 e2
    cases ex : deref ρ2 x with
    | none => rw [ex] at hz; cases hz
    | some wx =>
      cases ey : deref ρ2 y with
      | none => rw [ex, ey] at hz; cases hz
      | some wy =>
        rw [ex, ey] at hz
        cases eb : binD op wx wy with
        | none => simp only [Option.bind_some, eb] at hz; cases hz
        | some zz =>
          simp only [Option.bind_some, eb, Option.map_some, Option.some.injEq] at hz
          subst hz
          obtain ⟨r, hr, hq⟩ := bin_ok (X := X) (W := W) (σ := σ) (ρ := ρ2) (z := zz.1) (f := zz.2) eb R2 (dx.deref R2 ex) (oy.1.deref R2 ey) (fun a ha => g1.there a (g2.there a ha))
          exact ⟨r, hr, hq Q h3⟩
  obtain ⟨r, hr, q⟩ := key
  exact WE.mk (pe_op hr pe_we pe_we) q
theorem snd_un {a : Expr} {op : UnaryOp} {p : Pos} (O : XOk M N sc k X W) (R : Rep X.K G H σ ρ) (h : Post X.mg X.K W σ ρ G H (stepE M N E sc (.UnaryOp op a p) ρ) (OutC X.K σ H Q)) : WE X (.UnaryOp op a p) σ H Q := by
  cases op with
  | USub =>
    simp only [stepE] at h
    refine WE.mk (pe_un un_neg pe_we) ?_
    refine S.e O R (h.bind.imp fun x ρ1 G1 H1 _ g1 e1 R1 h1 vx ox => ?_)
    split at h1
    · rename_i i e
      have a1 := ox.1.deref R1 e
      exact ⟨i, a1.int, out_val h1 R1 (.int _)⟩
    · exact h1.elim
  | Not =>
    simp only [stepE] at h
    refine WE.mk (pe_notT pe_we) ?_
    refine S.e O R (h.bind.imp fun x ρ1 G1 H1 _ g1 e1 R1 h1 vx ox => ?_)
    obtain ⟨z, hz, h3⟩ := Post.of_none h1
    cases e : deref ρ1 x with
    | none => rw [e] at hz; cases hz
    | some d =>
      rw [e] at hz
      cases e2 : truD d with
      | none => simp only [Option.bind_some, e2] at hz; cases hz
      | some b =>
        simp only [Option.bind_some, e2, Option.map_some, Option.some.injEq] at hz
        subst hz
        exact ⟨b, tru_ok' R1.ex e2 (ox.1.deref R1 e), out_val h3 R1 (.bl _)⟩
  | _ => exact (show False from h).elim
theorem snd_bool {vs : List Expr} {op : BoolOp} {p : Pos} (O : XOk M N sc k X W) (R : Rep X.K G H σ ρ) (h : Post X.mg X.K W σ ρ G H (stepE M N E sc (.BoolOp op vs p) ρ) (OutC X.K σ H Q)) : WE X (.BoolOp op vs p) σ H Q := by
  simp only [stepE] at h
  split at h
  · exact WE.mk (pe_one pe_we) (S.e O R h)
  · rename_i a b r
    cases op with
    | And =>
      refine WE.mk (pe_andT pe_we pe_we) ?_
      refine S.e O R (h.bind.imp fun x ρ1 G1 H1 _ g1 e1 R1 h1 vx ox => ?_)
      split at h1
      · exact h1.elim
      · rename_i kk e
        cases e3 : deref ρ1 x with
        | none => rw [e3] at e; cases e
        | some d =>
          rw [e3] at e
          refine ⟨kk, tru_ok' R1.ex e (ox.1.deref R1 e3), ?_⟩
          cases kk with
          | true =>
            rw [if_pos rfl] at h1 ⊢
            exact S.e O R1 (h1.imp fun y ρ2 G2 H2 _ g2 e2 R2 h2 vy oy => h2 vy ⟨oy.1, fun d a q1 q2 => g1.there a (oy.2 d a q1 q2)⟩)
          | false =>
            rw [if_neg Bool.false_ne_true] at h1 ⊢
            exact h1.here R1 vx ox
    | Or =>
      refine WE.mk (pe_orT pe_we pe_we) ?_
      refine S.e O R (h.bind.imp fun x ρ1 G1 H1 _ g1 e1 R1 h1 vx ox => ?_)
      split at h1
      · exact h1.elim
      · rename_i kk e
        cases e3 : deref ρ1 x with
        | none => rw [e3] at e; cases e
        | some d =>
          rw [e3] at e
          refine ⟨kk, tru_ok' R1.ex e (ox.1.deref R1 e3), ?_⟩
          cases kk with
          | true =>
            rw [if_pos rfl] at h1 ⊢
            exact h1.here R1 vx ox
          | false =>
            rw [if_neg Bool.false_ne_true] at h1 ⊢
            exact S.e O R1 (h1.imp fun y ρ2 G2 H2 _ g2 e2 R2 h2 vy oy => h2 vy ⟨oy.1, fun d a q1 q2 => g1.there a (oy.2 d a q1 q2)⟩)
  · exact h.elim
theorem snd_ifx {c a b : Expr} {p : Pos} (O : XOk M N sc k X W) (R : Rep X.K G H σ ρ) (h : Post X.mg X.K W σ ρ G H (stepE M N E sc (.IfExp c a b p) ρ) (OutC X.K σ H Q)) : WE X (.IfExp c a b p) σ H Q := by
  simp only [stepE] at h
  refine WE.mk (pe_ifExp pt_wt pe_we pe_we) ?_
  refine S.t O R (h.bind.imp fun kk ρ1 G1 H1 _ g1 e1 R1 h1 => ?_)
  cases kk with
  | true =>
    rw [if_pos rfl] at h1 ⊢
    exact S.e O R1 (h1.imp fun y ρ2 G2 H2 _ g2 e2 R2 h2 vy oy => h2 vy ⟨oy.1, fun d a q1 q2 => g1.there a (oy.2 d a q1 q2)⟩)
  | false =>
    rw [if_neg Bool.false_ne_true] at h1 ⊢
    exact S.e O R1 (h1.imp fun y ρ2 G2 H2 _ g2 e2 R2 h2 vy oy => h2 vy ⟨oy.1, fun d a q1 q2 => g1.there a (oy.2 d a q1 q2)⟩)
end
end VE
end

section
set_option Elab.async false
set_option linter.all false
set_option maxRecDepth 100000
set_option maxHeartbeats 1000000
/-! VE4: comparisons, displays, subscripts, texts. -/
namespace VE
open PySem PySem.Spec L2

section
variable {M : Mdl} {N : List Str} {E : Ev} {sc : Scope} {k : Nat} {X : Cx} {W : WX} {σ : L2.St} {ρ : Ro} {G H : Hp} {Q : VK}
theorem bind2 {ρ : Ro} {x y : Bv} {β : Type} {f : D → D → Option β} {z : β} (h : ((deref ρ x).bind fun dx => (deref ρ y).bind fun dy => f dx dy) = some z) : ∃ dx dy, deref ρ x = some dx ∧ deref ρ y = some dy ∧ f dx dy = some z := by
  cases ex : deref ρ x with
  | none => rw [ex] at h; cases h
  | some wx =>
    cases ey : deref ρ y with
    | none => rw [ex, ey] at h; cases h
    | some wy =>
      rw [ex, ey] at h
      exact ⟨wx, wy, rfl, rfl, h⟩
theorem map_some {α β : Type} {o : Option α} {f : α → β} {z : β} (h : o.map f = some z) : ∃ w, o = some w ∧ f w = z := by
  cases o with
  | none => cases h
  | some w => exact ⟨w, rfl, Option.some.inj h⟩
theorem bind_some' {α β : Type} {o : Option α} {f : α → Option β} {z : β} (h : o.bind f = some z) : ∃ w, o = some w ∧ f w = some z := by
  cases o with
  | none => cases h
  | some w => exact ⟨w, rfl, h⟩
variable (S : Snd M N E)
include S
theorem snd_cmp1' {a b : Expr} {op : CmpOp} {p : Pos} (O : XOk M N sc k X W) (R : Rep X.K G H σ ρ) (h : Post X.mg X.K W σ ρ G H (stepE M N E sc (.Compare a [op] [b] p) ρ) (OutC X.K σ H Q)) :
    ∃ r : R2, OpR X (compareOp op) r ∧ behindInMarks op b = false ∧ tOp r (WE X a) (WE X b) σ H Q := by
  simp only [stepE] at h
  split at h
  · exact h.elim
  · rename_i hm
    have key : ∃ r : R2, OpR X (compareOp op) r ∧ WE X a σ H fun x H1 => WE X b σ H1 fun y H2 => r x y H2 Q := by
      refine ⟨fun x y H Q => ∃ r : R2, OpR X (compareOp op) r ∧ r x y H Q, fun pins s σ H x y v u Q I rx ry ⟨r, hr, q⟩ => hr pins s σ H x y v u Q I rx ry q, ?_⟩
      refine S.e O R (h.bind.imp fun x ρ1 G1 H1 _ g1 e1 R1 h1 vx ox => ?_)
      refine S.e O R1 (h1.bind.imp fun y ρ2 G2 H2 _ g2 e2 R2 h2 vy oy => ?_)
      obtain ⟨z, hz, h3⟩ := Post.of_none h2
      obtain ⟨dx, dy, ex, ey, hz⟩ := bind2 hz
      obtain ⟨w, ew, rfl⟩ := map_some hz
      obtain ⟨r, hr, hq⟩ := cmp_ok (X := X) O.room ew R2.ex ((ox.1.go g2 e2).deref R2 ex) (oy.1.deref R2 ey)
      exact ⟨r, hr, hq Q (out_val h3 R2 (.bl _))⟩
    obtain ⟨r, hr, q⟩ := key
    exact ⟨r, hr, by simpa using hm, q⟩
theorem snd_cmp1 {a b : Expr} {op : CmpOp} {p : Pos} (O : XOk M N sc k X W) (R : Rep X.K G H σ ρ) (h : Post X.mg X.K W σ ρ G H (stepE M N E sc (.Compare a [op] [b] p) ρ) (OutC X.K σ H Q)) : WE X (.Compare a [op] [b] p) σ H Q := by
  obtain ⟨r, hr, hm, q⟩ := snd_cmp1' S O R h
  exact WE.mk (pe_cmpR hr pe_we pe_we hm) q
theorem snd_cmp2' {a b c : Expr} {op op' : CmpOp} {p : Pos} (O : XOk M N sc k X W) (R : Rep X.K G H σ ρ) (h : Post X.mg X.K W σ ρ G H (stepE M N E sc (.Compare a [op, op'] [b, c] p) ρ) (OutC X.K σ H Q)) :
    ∃ r r' : R2, OpR X (compareOp op) r ∧ OpR X (compareOp op') r' ∧ lastMarks [op, op'] [b, c] = false ∧ tChain r r' (WE X a) (WE X b) (WE X c) σ H Q := by
  simp only [stepE] at h
  split at h
  · exact h.elim
  · rename_i hm
    have hm' : behindInMarks op b = false ∧ behindInMarks op' c = false := by simpa using hm
    have U : ∀ op : CmpOp, OpR X (compareOp op) fun x y H Q => ∃ r : R2, OpR X (compareOp op) r ∧ r x y H Q := fun op pins s σ H x y v u Q I rx ry ⟨r, hr, q⟩ => hr pins s σ H x y v u Q I rx ry q
    refine ⟨_, _, U op, U op', (show behindInMarks op' c = false from hm'.2), ?_⟩
    refine S.e O R (h.bind.imp fun x ρ1 G1 H1 _ g1 e1 R1 h1 vx ox => ?_)
    refine S.e O R1 (h1.bind.imp fun y ρ2 G2 H2 _ g2 e2 R2 h2 vy oy => ?_)
    split at h2
    · exact h2.elim
    · rename_i kk e
      obtain ⟨dx, dy, ex, ey, ew⟩ := bind2 e
      obtain ⟨r, hr, hq⟩ := cmp_ok (X := X) O.room ew R2.ex ((ox.1.go g2 e2).deref R2 ex) (oy.1.deref R2 ey)
      refine ⟨r, hr, hq _ ⟨kk, rfl, ?_⟩⟩
      cases kk with
      | false =>
        rw [if_neg Bool.false_ne_true] at h2 ⊢
        exact out_val h2 R2 (.bl _)
      | true =>
        rw [if_pos rfl] at h2 ⊢
        refine S.e O R2 (h2.bind.imp fun z ρ3 G3 H3 _ g3 e3 R3 h3 vz oz => ?_)
        obtain ⟨w, hw, h4⟩ := Post.of_none h3
        obtain ⟨dy', dz, ey', ez, hz⟩ := bind2 hw
        obtain ⟨u, eu, rfl⟩ := map_some hz
        obtain ⟨r', hr', hq'⟩ := cmp_ok (X := X) O.room eu R3.ex ((oy.1.go g3 e3).deref R3 ey') (oz.1.deref R3 ez)
        exact ⟨r', hr', hq' Q (out_val h4 R3 (.bl _))⟩
theorem snd_cmp2 {a b c : Expr} {op op' : CmpOp} {p : Pos} (O : XOk M N sc k X W) (R : Rep X.K G H σ ρ) (h : Post X.mg X.K W σ ρ G H (stepE M N E sc (.Compare a [op, op'] [b, c] p) ρ) (OutC X.K σ H Q)) : WE X (.Compare a [op, op'] [b, c] p) σ H Q := by
  obtain ⟨r, r', h1, h2, hm, q⟩ := snd_cmp2' S O R h
  exact WE.mk (pe_chain h1 h2 pe_we pe_we pe_we hm) q
theorem snd_tup {es : List Expr} {j : Nat} {p : Pos} (O : XOk M N sc k X W) (R : Rep X.K G H σ ρ) (h : Post X.mg X.K W σ ρ G H (stepE M N E sc (.Tuple es j p) ρ) (OutC X.K σ H Q)) : WE X (.Tuple es j p) σ H Q := by
  simp only [stepE] at h
  refine WE.mk (pe_tup pa_wa) ?_
  refine S.es O R (h.bind.imp fun ds ρ1 G1 H1 _ g1 e1 R1 h1 vs i => ?_)
  split at h1
  · rename_i c
    exact ⟨by rw [i.length]; exact of_decide_eq_true c, fun p hp => out_tup h1 R1 hp i⟩
  · exact h1.elim
theorem snd_lst {es : List Expr} {p : Pos} (O : XOk M N sc k X W) (R : Rep X.K G H σ ρ) (h : Post X.mg X.K W σ ρ G H (stepE M N E sc (.List es p) ρ) (OutC X.K σ H Q)) : WE X (.List es p) σ H Q := by
  simp only [stepE] at h
  refine WE.mk (pe_lst pa_wa) ?_
  refine S.es O R (h.bind.imp fun ds ρ1 G1 H1 _ g1 e1 R1 h1 vs i => ?_)
  split at h1
  · rename_i c
    exact ⟨by rw [i.length]; exact of_decide_eq_true c, fun p hp => out_lst h1 R1 hp (g1.there p hp) i⟩
  · exact h1.elim
theorem po_part (O : XOk M N sc k X W) {o : Option Expr} (R : Rep X.K G H σ ρ) {C : Option Int → Hp → Prop} (h : Post X.mg X.K W σ ρ G H (partS E sc o ρ) fun l _ _ H' => C l H') : ∃ t : TO, PO X o t ∧ t σ H C := by
  cases o with
  | none => exact ⟨_, po_none, h.here R⟩
  | some e =>
    refine ⟨_, po_some pe_we, ?_⟩
    refine S.e O R ((show Post X.mg X.K W σ ρ G H ((E.e sc e ρ).bind fun b ρ1 => (match deref ρ1 b with
      | some (.int i) => Rs.ok (some i) ρ1
      | _ => .stuck)) _ from h).bind.imp fun x ρ1 G1 H1 _ g1 e1 R1 h1 vx ox => ?_)
    split at h1
    · rename_i i e
      exact ⟨i, (ox.1.deref R1 e).int, h1.here R1⟩
    · exact h1.elim
theorem snd_ix {a s : Expr} {p : Pos} (hs : isSlice s = false) (O : XOk M N sc k X W) (R : Rep X.K G H σ ρ)
    (h : Post X.mg X.K W σ ρ G H ((E.e sc a ρ).bind fun x ρ1 => (E.e sc s ρ1).bind fun y ρ2 => Rs.of ((deref ρ2 x).bind fun dx => (deref ρ2 y).bind fun dy => (ixD dx dy).map fun z => Bv.va z false) ρ2) (OutC X.K σ H Q)) : WE X (.Subscript a s p) σ H Q := by
  have U : IxR X fun x y H Q => ∃ r : R2, IxR X r ∧ r x y H Q := fun va sl pins s σ H x y v u Q I rx ry ⟨r, hr, q⟩ hh => hr va sl pins s σ H x y v u Q I rx ry q hh
  refine WE.mk (pe_ix U pe_we pe_we (ix_plain hs)) ?_
  refine S.e O R (h.bind.imp fun x ρ1 G1 H1 _ g1 e1 R1 h1 vx ox => ?_)
  refine S.e O R1 (h1.bind.imp fun y ρ2 G2 H2 _ g2 e2 R2 h2 vy oy => ?_)
  obtain ⟨z, hz, h3⟩ := Post.of_none h2
  obtain ⟨dx, dy, ex, ey, hz⟩ := bind2 hz
  obtain ⟨w, ew, rfl⟩ := map_some hz
  obtain ⟨r, hr, hq⟩ := ix_ok (X := X) ew R2.ex ((ox.1.go g2 e2).deref R2 ex) (oy.1.deref R2 ey)
  exact ⟨r, hr, hq Q fun v i => out_val h3 R2 i⟩
theorem snd_cut {a : Expr} {lo hi : Option Expr} {p p2 : Pos} (O : XOk M N sc k X W) (R : Rep X.K G H σ ρ)
    (h : Post X.mg X.K W σ ρ G H (stepE M N E sc (.Subscript a (.Slice lo hi none p2) p) ρ) (OutC X.K σ H Q)) : WE X (.Subscript a (.Slice lo hi none p2) p) σ H Q := by
  simp only [stepE] at h
  have U : SlR X fun x l u H Q => ∃ r, SlR X r ∧ r x l u H Q := fun pins s σ H x v vl vu lo hi sl Q I rx hs hl hu ⟨r, hr, q⟩ => hr pins s σ H x v vl vu lo hi sl Q I rx hs hl hu q
  have P : ∀ o, PO X o fun σ H Q => ∃ t : TO, PO X o t ∧ t σ H Q := fun o => ⟨fun pins s σ H Q I ⟨t, ht, q⟩ => ht.run pins s σ H Q I q⟩
  refine WE.mk (pe_slice U pe_we (P lo) (P hi)) ?_
  refine S.e O R (h.bind.imp fun x ρ1 G1 H1 _ g1 e1 R1 h1 vx ox => ?_)
  refine po_part S O R1 (h1.bind.imp fun l ρ2 G2 H2 _ g2 e2 R2 h2 => ?_)
  refine po_part S O R2 (h2.bind.imp fun u ρ3 G3 H3 _ g3 e3 R3 h3 => ?_)
  obtain ⟨z, hz, h4⟩ := Post.of_none h3
  obtain ⟨dx, ex, hz⟩ := bind_some' hz
  obtain ⟨w, ew, rfl⟩ := map_some hz
  obtain ⟨r, hr, hq⟩ := cut_ok (X := X) (W := W) (z := w.1) (f := w.2) ew R3 (((ox.1.go g2 e2).go g3 e3).deref R3 ex) fun a ha => g1.there a (g2.there a (g3.there a ha))
  exact ⟨r, hr, hq Q h4⟩
theorem snd_fmt {v : Expr} {p : Pos} (O : XOk M N sc k X W) (R : Rep X.K G H σ ρ)
    (h : Post X.mg X.K W σ ρ G H ((E.e sc v ρ).bind fun x ρ1 => Rs.of (((deref ρ1 x).bind toStrD).map fun y => Bv.va (.str y) false) ρ1) (OutC X.K σ H Q)) : WE X (.FormattedValue v (-1) none p) σ H Q := by
  refine WE.mk (pe_fmt pe_we) ?_
  refine S.e O R (h.bind.imp fun x ρ1 G1 H1 _ g1 e1 R1 h1 vx ox => ?_)
  obtain ⟨z, hz, h3⟩ := Post.of_none h1
  obtain ⟨w, ew, rfl⟩ := map_some hz
  obtain ⟨d, ed, ew⟩ := bind_some' ew
  have a1 := ox.1.deref R1 ed
  cases d with
  | str y =>
    simp only [toStrD] at ew
    split at ew
    · rename_i c
      cases ew
      exact .inl ⟨_, a1.str, of_decide_eq_true c, out_val h3 R1 (.str _)⟩
    · cases ew
  | int i =>
    simp only [toStrD] at ew
    split at ew
    · rename_i c
      cases ew
      exact .inr ⟨_, a1.int, of_decide_eq_true c, out_val h3 R1 (.str _)⟩
    · cases ew
  | _ => cases ew
omit S in
theorem pj_all : ∀ es : List Expr, PJ X es (es.map fun e => WE X e)
  | [] => .nil
  | e :: es => .cons pe_we (pj_all es)
theorem snd_join (O : XOk M N sc k X W) {C : Str → Hp → Prop} : ∀ {es : List Expr} {acc : Str} {ρ : Ro} {G H : Hp}, Rep X.K G H σ ρ → Post X.mg X.K W σ ρ G H (joinL E sc es acc ρ) (fun w _ _ H' => C w H') → tJs (es.map fun e => WE X e) acc σ H C
  | [], acc, ρ, G, H, R, h => h.here R
  | e :: es, acc, ρ, G, H, R, h => by
    refine S.e O R ((show Post X.mg X.K W σ ρ G H ((E.e sc e ρ).bind fun b ρ1 => (match deref ρ1 b with
      | some (.str y) => if szOk (acc ++ y).length then joinL E sc es (acc ++ y) ρ1 else .stuck
      | _ => .stuck)) _ from h).bind.imp fun x ρ1 G1 H1 _ g1 e1 R1 h1 vx ox => ?_)
    split at h1
    · rename_i y ey
      split at h1
      · rename_i c
        exact ⟨y, (ox.1.deref R1 ey).str, of_decide_eq_true c, snd_join O R1 h1⟩
      · exact h1.elim
    · exact h1.elim
theorem snd_joined {a b : Expr} {r : List Expr} {p : Pos} (O : XOk M N sc k X W) (R : Rep X.K G H σ ρ) (h : Post X.mg X.K W σ ρ G H (stepE M N E sc (.JoinedStr (a :: b :: r) p) ρ) (OutC X.K σ H Q)) : WE X (.JoinedStr (a :: b :: r) p) σ H Q := by
  simp only [stepE] at h
  refine WE.mk (pe_joined (pj_all (a :: b :: r))) ?_
  refine snd_join S O (es := a :: b :: r) R (h.bind.imp fun w ρ1 G1 H1 _ g1 e1 R1 h1 => out_val h1 R1 (.str _))
/-! ### tests, displays' items, arguments -/
omit S in
theorem pw_of_pt {op : BoolOp} {vs : List Expr} {p : Pos} {t : TT} (h : PT X (.BoolOp op vs p) t) : PW X (.BoolOp op vs p) t := ⟨fun whole pins s σ H Q I q => by
  have e : ∀ w, PySem.isTrue (.BoolOp op vs p) X.env w = allTrue op vs X.env := fun w => by simp only [PySem.isTrue]
  have z := h.run pins s σ H Q I q
  rw [e] at z ⊢
  exact z⟩
theorem snd_t {e : Expr} {Q : Bool → Hp → Prop} (O : XOk M N sc k X W) (R : Rep X.K G H σ ρ) (h : Post X.mg X.K W σ ρ G H (stepT M N E sc e ρ) (fun b _ _ H' => Q b H')) : WT X e σ H Q := by
  have plain : plainTest e = true → Post X.mg X.K W σ ρ G H ((E.e sc e ρ).bind fun x ρ1 => Rs.of ((deref ρ1 x).bind truD) ρ1) (fun b _ _ H' => Q b H') → WT X e σ H Q := fun hp h => by
    refine WT.mk (pt_truth pe_we (test_plain hp)) ?_
    refine S.e O R (h.bind.imp fun x ρ1 G1 H1 _ g1 e1 R1 h1 vx ox => ?_)
    obtain ⟨z, hz, h3⟩ := Post.of_none h1
    obtain ⟨d, ed, ew⟩ := bind_some' hz
    exact ⟨z, tru_ok' R1.ex ew (ox.1.deref R1 ed), h3.here R1⟩
  cases e with
  | UnaryOp op a p =>
    cases op with
    | Not =>
      have h' : Post X.mg X.K W σ ρ G H ((E.t sc a ρ).bind fun b ρ1 => .ok (!b) ρ1) (fun b _ _ H' => Q b H') := h
      refine WT.mk (pt_not pt_wt) ?_
      exact S.t O R (h'.bind.imp fun b ρ1 G1 H1 _ g1 e1 R1 h1 => h1.here R1)
    | _ => exact plain rfl h
  | BoolOp op vs p =>
    have h' := h
    simp only [stepT] at h'
    split at h'
    · rename_i a
      cases op with
      | And => exact WT.mk (pw_and1 pt_wt).pt (S.t O R h')
      | Or => exact WT.mk (pw_or1 pt_wt).pt (S.t O R h')
    · rename_i a b r
      cases op with
      | And =>
        refine WT.mk (pw_and pt_wt (pw_of_pt pt_wt)).pt ?_
        refine S.t O R (h'.bind.imp fun kk ρ1 G1 H1 _ g1 e1 R1 h1 => ?_)
        cases kk with
        | true =>
          rw [if_pos rfl]
          exact S.t O R1 h1
        | false =>
          rw [if_neg Bool.false_ne_true]
          exact Post.here R1 (show Post X.mg X.K W σ ρ1 G1 H1 (.ok false ρ1) _ from h1)
      | Or =>
        refine WT.mk (pw_or pt_wt (pw_of_pt pt_wt)).pt ?_
        refine S.t O R (h'.bind.imp fun kk ρ1 G1 H1 _ g1 e1 R1 h1 => ?_)
        cases kk with
        | true =>
          rw [if_pos rfl]
          exact Post.here R1 (show Post X.mg X.K W σ ρ1 G1 H1 (.ok true ρ1) _ from h1)
        | false =>
          rw [if_neg Bool.false_ne_true]
          exact S.t O R1 h1
    · exact h'.elim
  | IfExp _ _ _ _ => exact (show False from h).elim
  | Compare a ops bs p =>
    have h' : Post X.mg X.K W σ ρ G H ((stepE M N E sc (.Compare a ops bs p) ρ).bind fun x ρ1 => (match x with
      | .va (.bl b) _ => Rs.ok b ρ1
      | _ => .stuck)) (fun b _ _ H' => Q b H') := h
    have h2 : Post X.mg X.K W σ ρ G H (stepE M N E sc (.Compare a ops bs p) ρ) (OutC X.K σ H fun v H' => ∃ kk, v = .bl kk ∧ Q kk H') := h'.bind.imp fun x ρ1 G1 H1 _ g1 e1 R1 h1 vx ox => by
      split at h1
      · exact ⟨_, (ox.1.deref R1 rfl).bl, h1.here R1⟩
      · exact h1.elim
    match ops, bs, h2 with
    | [op], [b], h2 =>
      obtain ⟨r, hr, hm, q⟩ := snd_cmp1' S O R h2
      exact WT.mk (pt_cmpR hr pe_we pe_we hm) q
    | [op, op'], [b, c], h2 =>
      obtain ⟨r, r', h1, h2, hm, q⟩ := snd_cmp2' S O R h2
      exact WT.mk (pt_chain h1 h2 pe_we pe_we pe_we hm) q
    | [], _, h2 => exact (show False from h2).elim
    | [_], [], h2 => exact (show False from h2).elim
    | [_], _ :: _ :: _, h2 => exact (show False from h2).elim
    | [_, _], [], h2 => exact (show False from h2).elim
    | [_, _], [_], h2 => exact (show False from h2).elim
    | [_, _], _ :: _ :: _ :: _, h2 => exact (show False from h2).elim
    | _ :: _ :: _ :: _, _, h2 => exact (show False from h2).elim
  | _ => exact plain rfl h
theorem snd_es {es : List Expr} {Q : List V → Hp → Prop} (O : XOk M N sc k X W) (R : Rep X.K G H σ ρ) (h : Post X.mg X.K W σ ρ G H (stepEs E sc es ρ) (fun ds _ G' H' => ∀ vs, IsL X.K G' vs ds → Q vs H')) : WA X es σ H Q := by
  cases es with
  | nil => exact WA.mk pa_nil (h.here R [] .nil)
  | cons e r =>
    simp only [stepEs] at h
    split at h
    · rename_i hs
      refine WA.mk (pa_cons pe_we pa_wa (star_cons hs)) ?_
      refine S.e O R (h.bindW.imp fun x ρ1 G1 H1 _ g1 e1 R1 h1 vx ox => ?_)
      obtain ⟨d, ρ2, G2, g2, e2, R2, i2, h2⟩ := h1 vx ox
      refine S.es O R2 (h2.bind.imp fun ds ρ3 G3 H3 _ g3 e3 R3 h3 vs i3 => ?_)
      exact h3.here R3 _ (.cons (i2.mono g3.g) i3)
    · exact h.elim
theorem snd_as {es : List Expr} {Q : List V → Hp → Prop} (O : XOk M N sc k X W) (R : Rep X.K G H σ ρ) (h : Post X.mg X.K W σ ρ G H (stepAs E sc es ρ) (fun bs _ G' H' => ∀ vs, DenA X.K G' σ vs bs → Q vs H')) : WA X es σ H Q := by
  cases es with
  | nil => exact WA.mk pa_nil (h.here R [] .nil)
  | cons e r =>
    simp only [stepAs] at h
    split at h
    · rename_i hs
      refine WA.mk (pa_cons pe_we pa_wa (star_cons hs)) ?_
      refine S.e O R (h.bind.imp fun x ρ1 G1 H1 eq g1 e1 R1 h1 vx ox => ?_)
      cases x with
      | «at» i =>
        refine S.as O R1 (h1.bind.imp fun bs ρ3 G3 H3 _ g3 e3 R3 h3 vs i3 => ?_)
        exact h3.here R3 _ (.at ox.1 i3)
      | va d f =>
        obtain ⟨G2, g2, e2, R2, i2⟩ := whole_of R1 g1 e1 ox (d := d) (ρ2 := ρ1) rfl
        have h0 := h
        rw [eq] at h0
        have h2 := Post.later (r := (E.as sc r ρ1).bind fun bs ρ3 => Rs.ok (Bv.va d false :: bs) ρ3) h0 g2 e2
        refine S.as O R2 (h2.bind.imp fun bs ρ3 G3 H3 _ g3 e3 R3 h3 vs i3 => ?_)
        exact h3.here R3 _ (.va (i2.mono g3.g) i3)
    · exact h.elim
end
end VE
end

section
set_option Elab.async false
set_option linter.all false
set_option maxRecDepth 100000
set_option maxHeartbeats 1000000
/-! VE5: calls. -/
namespace VE
open PySem PySem.Spec L2

theorem mapM_get {α β : Type} {f : α → Option β} : ∀ {l : List α} {r : List β}, l.mapM f = some r → r.length = l.length ∧ ∀ (i : Nat) (a : α), l[i]? = some a → ∃ b, f a = some b ∧ r[i]? = some b
  | [], r, h => by
    simp at h
    subst h
    exact ⟨rfl, fun i a e => by simp at e⟩
  | x :: l, r, h => by
    rw [List.mapM_cons] at h
    cases e1 : f x with
    | none => rw [e1] at h; cases h
    | some y =>
      rw [e1] at h
      cases e2 : l.mapM f with
      | none => rw [e2] at h; cases h
      | some ys =>
        rw [e2] at h
        cases h
        obtain ⟨h1, h2⟩ := mapM_get e2
        refine ⟨by simp [h1], fun i a e => ?_⟩
        cases i with
        | zero =>
          cases e
          exact ⟨y, e1, rfl⟩
        | succ i => exact h2 i a (by simpa using e)
theorem DenA.len {K : PySem.W.Frag} {G : Hp} {σ : L2.St} : ∀ {vs : List V} {bs : List Bv}, DenA K G σ vs bs → vs.length = bs.length
  | _, _, .nil => rfl
  | _, _, .at _ r => congrArg Nat.succ r.len
  | _, _, .va _ r => congrArg Nat.succ r.len
theorem DenA.get_at {K : PySem.W.Frag} {G : Hp} {σ : L2.St} : ∀ {vs : List V} {bs : List Bv} {i p : Nat}, DenA K G σ vs bs → bs[i]? = some (.at p) → ∃ v, vs[i]? = some v ∧ σ[p]? = some (some v)
  | _, _, i, p, .nil, e => by simp at e
  | _, _, 0, p, .at h r, e => by
    cases e
    exact ⟨_, rfl, h⟩
  | _, _, i + 1, p, .at h r, e => DenA.get_at (i := i) r (by simpa using e)
  | _, _, 0, p, .va h r, e => by cases e
  | _, _, i + 1, p, .va h r, e => DenA.get_at (i := i) r (by simpa using e)
theorem DenA.get_va {K : PySem.W.Frag} {G : Hp} {σ : L2.St} {d : D} {f : Bool} : ∀ {vs : List V} {bs : List Bv} {i : Nat}, DenA K G σ vs bs → bs[i]? = some (.va d f) → ∃ v, vs[i]? = some v ∧ Is K G v d
  | _, _, i, .nil, e => by simp at e
  | _, _, 0, .at h r, e => by cases e
  | _, _, i + 1, .at h r, e => DenA.get_va (i := i) r (by simpa using e)
  | _, _, 0, .va h r, e => by
    cases e
    exact ⟨_, rfl, h⟩
  | _, _, i + 1, .va h r, e => DenA.get_va (i := i) r (by simpa using e)
theorem ats_mem {ρ : Ro} {p : Nat} {m : Md} {d : D} (hp : ρ[p]? = some (.ow m d)) : ∀ {bs : List Bv} {i : Nat}, bs[i]? = some (.at p) → p ∈ atsOf ρ bs
  | [], i, h => by simp at h
  | .at q :: r, 0, h => by
    cases h
    simp only [atsOf, hp]
    exact List.mem_cons_self
  | .at q :: r, i + 1, h => by
    have z := ats_mem hp (bs := r) (i := i) (by simpa using h)
    simp only [atsOf]
    split
    · exact List.mem_cons_of_mem _ z
    · exact z
  | .va _ _ :: r, 0, h => by cases h
  | .va _ _ :: r, i + 1, h => by
    simp only [atsOf]
    exact ats_mem hp (bs := r) (i := i) (by simpa using h)
theorem ats_inj {ρ : Ro} {p : Nat} {m : Md} {d : D} (hp : ρ[p]? = some (.ow m d)) : ∀ {bs : List Bv} {i j : Nat}, (atsOf ρ bs).Nodup → bs[i]? = some (.at p) → bs[j]? = some (.at p) → i = j
  | [], i, j, _, h, _ => by simp at h
  | .at q :: r, 0, 0, _, _, _ => rfl
  | .at q :: r, 0, j + 1, n, h, h2 => by
    cases h
    simp only [atsOf, hp] at n
    exact absurd (ats_mem hp (i := j) (by simpa using h2)) (List.nodup_cons.mp n).1
  | .at q :: r, i + 1, 0, n, h, h2 => by
    cases h2
    simp only [atsOf, hp] at n
    exact absurd (ats_mem hp (i := i) (by simpa using h)) (List.nodup_cons.mp n).1
  | .at q :: r, i + 1, j + 1, n, h, h2 => by
    refine congrArg Nat.succ (ats_inj hp (bs := r) (i := i) (j := j) ?_ (by simpa using h) (by simpa using h2))
    simp only [atsOf] at n
    split at n
    · exact (List.nodup_cons.mp n).2
    · exact n
  | .va _ _ :: r, 0, _, _, h, _ => by cases h
  | .va _ _ :: r, _ + 1, 0, _, _, h => by cases h
  | .va _ _ :: r, i + 1, j + 1, n, h, h2 => congrArg Nat.succ (ats_inj hp (bs := r) (i := i) (j := j) (by simpa only [atsOf] using n) (by simpa using h) (by simpa using h2))
theorem findArg_some {p : Nat} {a : Sl} : ∀ {bs : List Bv} {as : List Sl}, findArg p bs as = some a → ∃ i : Nat, bs[i]? = some (Bv.at p) ∧ as[i]? = some a
  | [], as, h => by cases as <;> cases h
  | .at q :: bs, [], h => by cases h
  | .at q :: bs, x :: as, h => by
    simp only [findArg] at h
    split at h
    · rename_i e
      cases h
      subst e
      exact ⟨0, rfl, rfl⟩
    · obtain ⟨i, h1, h2⟩ := findArg_some h
      exact ⟨i + 1, by simpa using h1, by simpa using h2⟩
  | .va _ _ :: bs, [], h => by cases h
  | .va _ _ :: bs, x :: as, h => by
    obtain ⟨i, h1, h2⟩ := findArg_some (bs := bs) (as := as) h
    exact ⟨i + 1, by simpa using h1, by simpa using h2⟩
theorem findArg_none {p : Nat} : ∀ {bs : List Bv} {as : List Sl} {i : Nat}, findArg p bs as = none → bs[i]? = some (.at p) → as[i]? = none
  | [], as, i, _, e => by simp at e
  | .at q :: bs, [], i, _, _ => by simp
  | .at q :: bs, x :: as, 0, h, e => by
    cases e
    simp [findArg] at h
  | .at q :: bs, x :: as, i + 1, h, e => by
    simp only [findArg] at h
    split at h
    · cases h
    · simpa using findArg_none (i := i) h (by simpa using e)
  | .va _ _ :: bs, [], i, _, _ => by simp
  | .va _ _ :: bs, x :: as, 0, h, e => by cases e
  | .va _ _ :: bs, x :: as, i + 1, h, e => by simpa using findArg_none (bs := bs) (as := as) (i := i) h (by simpa using e)
theorem give_get {bs : List Bv} {as : List Sl} {ρ : Ro} {p : Nat} : (giveBack bs as ρ)[p]? = ρ[p]?.map fun s => comb s (findArg p bs as) := by
  unfold giveBack
  rw [List.getElem?_mapIdx]

section
variable {K : PySem.W.Frag} {G H : Hp} {σ : L2.St} {ρ : Ro} {vs us : List V} {bs : List Bv} {sls : List Sl} {ds : List D}
/-- a lent place -/
theorem lend_ow {m : Md} {d : D} {i : Nat} (hl : bs.mapM (lend1 ρ) = some sls) (h : sls[i]? = some (.ow m d)) : ∃ p m0, bs[i]? = some (.at p) ∧ ρ[p]? = some (.ow m0 d) ∧ (m = .lck ↔ m0 = .lck) := by
  obtain ⟨h1, h2⟩ := mapM_get hl
  cases e : bs[i]? with
  | none =>
    have z : sls[i]? = none := by
      rw [List.getElem?_eq_none_iff] at e ⊢
      omega
    rw [z] at h
    cases h
  | some b =>
    obtain ⟨s, e1, e2⟩ := h2 i b e
    rw [h] at e2
    cases e2
    cases b with
    | va d' f => cases e1
    | «at» p =>
      simp only [lend1] at e1
      split at e1
      · cases e1
      · cases e1
      · rename_i d' q
        cases e1
        exact ⟨p, .own, rfl, q, by simp⟩
      · rename_i d' q
        cases e1
        exact ⟨p, .par, rfl, q, by simp⟩
      · rename_i d' q
        cases e1
        exact ⟨p, .lck, rfl, q, by simp⟩
      · cases e1
theorem lend_at {p i : Nat} {m : Md} {d : D} (hl : bs.mapM (lend1 ρ) = some sls) (hb : bs[i]? = some (.at p)) (hp : ρ[p]? = some (.ow m d)) : sls[i]? = some (.ow (if m = .lck then .lck else .par) d) := by
  obtain ⟨h1, h2⟩ := mapM_get hl
  obtain ⟨s, e1, e2⟩ := h2 i _ hb
  simp only [lend1, hp] at e1
  cases m <;> (cases e1; exact e2)
theorem app_get {α : Type} {l r : List α} {i : Nat} {a : α} (h : (l ++ r)[i]? = some a) : (i < l.length ∧ l[i]? = some a) ∨ (l.length ≤ i ∧ r[i - l.length]? = some a) := by
  by_cases e : i < l.length
  · rw [List.getElem?_append_left e] at h
    exact .inl ⟨e, h⟩
  · rw [List.getElem?_append_right (by omega)] at h
    exact .inr ⟨by omega, h⟩
theorem fz_get {i : Nat} {s : Sl} (h : (ds.map Sl.fz)[i]? = some s) : ∃ d, ds[i]? = some d ∧ s = .fz d := by
  rw [List.getElem?_map] at h
  cases e : ds[i]? with
  | none => rw [e] at h; cases h
  | some d =>
    rw [e] at h
    exact ⟨d, rfl, (Option.some.inj h).symm⟩
/-- an argument that is a list of its own -/
theorem arg_ow {i : Nat} {a : Addr} (hv : DenA K G σ vs bs) (hl : bs.mapM (lend1 ρ) = some sls) (h : OwAt ((vs ++ us).map some) (sls ++ ds.map .fz) i a) : ∃ p m m0 d, bs[i]? = some (.at p) ∧ sls[i]? = some (.ow m d) ∧ ρ[p]? = some (.ow m0 d) ∧ (m = .lck ↔ m0 = .lck) ∧ σ[p]? = some (some (.ref a)) := by
  obtain ⟨m, d, h1, h2⟩ := h
  rcases app_get h1 with ⟨hi, h1⟩ | ⟨_, h1⟩
  · obtain ⟨p, m0, e1, e2, e3⟩ := lend_ow hl h1
    obtain ⟨v, e4, e5⟩ := hv.get_at e1
    refine ⟨p, m, m0, d, e1, h1, e2, e3, ?_⟩
    have hlen := (mapM_get hl).1
    have hl2 := hv.len
    rw [List.getElem?_map, List.getElem?_append_left (by omega), e4] at h2
    have e : v = .ref a := Option.some.inj (Option.some.inj h2)
    rw [e5, e]
  · obtain ⟨d', _, e⟩ := fz_get h1
    cases e
theorem lend_rep (R : Rep K G H σ ρ) (hv : DenA K G σ vs bs) (hl : bs.mapM (lend1 ρ) = some sls) (hn : (atsOf ρ bs).Nodup) (hd : IsL K G us ds) : Rep K G H ((vs ++ us).map some) (sls ++ ds.map .fz) := by
  have l1 := (mapM_get hl).1
  have l2 := hv.len
  have l3 := hd.length
  refine ⟨R.ex, by simp; omega, fun i s e => ?_, fun i j a o1 o2 => ?_⟩
  · rcases app_get e with ⟨hi, e⟩ | ⟨hi, e⟩
    · rw [List.getElem?_map, List.getElem?_append_left (by omega)]
      cases eb : bs[i]? with
      | none => rw [List.getElem?_eq_none_iff] at eb; omega
      | some b =>
        obtain ⟨s', e1, e2⟩ := (mapM_get hl).2 i b eb
        rw [e] at e2
        cases e2
        cases b with
        | va d f =>
          cases e1
          obtain ⟨v, e3, e4⟩ := hv.get_va eb
          rw [e3]
          exact ⟨v, rfl, e4⟩
        | «at» p =>
          obtain ⟨v, e3, e4⟩ := hv.get_at eb
          rw [e3]
          simp only [lend1] at e1
          split at e1
          · rename_i d q
            cases e1
            obtain ⟨v', z1, z2⟩ := R.sl p _ q
            rw [e4] at z1
            cases z1
            exact ⟨v, rfl, z2⟩
          · rename_i d q
            cases e1
            obtain ⟨a, xs, es, z1, rfl, z3, z4⟩ := R.sl p _ q
            rw [e4] at z1
            cases z1
            exact ⟨.ref a, rfl, .lst z3 z4⟩
          · rename_i d q
            cases e1
            obtain ⟨a, z1, z2⟩ := R.sl p _ q
            rw [e4] at z1
            cases z1
            exact ⟨a, rfl, z2⟩
          · rename_i d q
            cases e1
            obtain ⟨a, z1, z2⟩ := R.sl p _ q
            rw [e4] at z1
            cases z1
            exact ⟨a, rfl, z2⟩
          · rename_i d q
            cases e1
            obtain ⟨a, z1, z2⟩ := R.sl p _ q
            rw [e4] at z1
            cases z1
            exact ⟨a, rfl, z2⟩
          · cases e1
    · obtain ⟨d, e1, rfl⟩ := fz_get e
      obtain ⟨v, e2, e3⟩ := hd.get e1
      rw [List.getElem?_map, List.getElem?_append_right (by omega), l2, ← l1, e2]
      exact ⟨v, rfl, e3⟩
  · obtain ⟨p, m, m0, d, a1, a2, a3, _, a4⟩ := arg_ow hv hl o1
    obtain ⟨q, n, n0, d', b1, b2, b3, _, b4⟩ := arg_ow hv hl o2
    have e : p = q := R.dj p q a ⟨m0, d, a3, a4⟩ ⟨n0, d', b3, b4⟩
    subst e
    exact ats_inj a3 hn a1 b1
/-- behind a call: what was lent is back -/
theorem call_back {G' H' : Hp} {as : List Sl} (R : Rep K G H σ ρ) (hv : DenA K G σ vs bs) (hl : bs.mapM (lend1 ρ) = some sls) (hn : (atsOf ρ bs).Nodup) (hd : IsL K G us ds)
    (g : Go ((vs ++ us).map some) (sls ++ ds.map .fz) G H ((vs ++ us).map some) as G' H') (R' : Rep K G' H' ((vs ++ us).map some) as) :
    Go σ ρ G H σ (giveBack bs as ρ) G' H' ∧ Evo ρ (giveBack bs as ρ) ∧ Rep K G' H' σ (giveBack bs as ρ) := by
  have l1 := (mapM_get hl).1
  have l2 := hv.len
  have l3 := hd.length
  have l4 : as.length = sls.length + ds.length := by
    have := R'.len
    simp at this
    omega
  -- a lent slot's argument
  have lent : ∀ {p i : Nat} {m : Md} {d : D}, bs[i]? = some (.at p) → ρ[p]? = some (.ow m d) → (sls ++ ds.map .fz)[i]? = some (.ow (if m = .lck then .lck else .par) d) := fun {p i m d} hb hp => by
    have z := lend_at hl hb hp
    have hi : i < sls.length := by
      rcases Nat.lt_or_ge i sls.length with h | h
      · exact h
      · rw [List.getElem?_eq_none_iff.mpr h] at z
        cases z
    rw [List.getElem?_append_left hi]
    exact z
  have lentV : ∀ {p i : Nat}, bs[i]? = some (.at p) → ((vs ++ us).map some)[i]? = σ[p]? := fun {p i} hb => by
    obtain ⟨v, e1, e2⟩ := hv.get_at hb
    have hi : i < vs.length := by
      rcases Nat.lt_or_ge i vs.length with h | h
      · exact h
      · rw [List.getElem?_eq_none_iff.mpr h] at e1
        cases e1
    rw [List.getElem?_map, List.getElem?_append_left hi, e1, e2]
    rfl
  have moSub : ∀ a, Mo ((vs ++ us).map some) (sls ++ ds.map .fz) a → Mo σ ρ a := fun a mo => by
    obtain ⟨i, m, d, n, e1, e2⟩ := mo
    obtain ⟨p, m', m0, d', a1, a2, a3, a4, a5⟩ := arg_ow hv hl ⟨m, d, e1, e2⟩
    rcases app_get e1 with ⟨_, e1⟩ | ⟨_, e1⟩
    · rw [e1] at a2
      cases a2
      exact ⟨p, m0, _, fun z => n (a4.mpr z), a3, a5⟩
    · obtain ⟨_, _, e⟩ := fz_get e1
      cases e
  -- each slot, behind
  have slot : ∀ (p : Nat) (s : Sl), ρ[p]? = some s → ∃ s', (giveBack bs as ρ)[p]? = some s' ∧ SlOk K G' H' σ[p]? s' ∧ (pinned s = true → PinTo s s') ∧ (∀ m d', s' = .ow m d' → ∃ d, s = .ow m d) := fun p s hp => by
    refine ⟨comb s (findArg p bs as), by rw [give_get, hp]; rfl, ?_⟩
    have old := R.sl p s hp
    cases s with
    | un => exact ⟨old, (fun z => by cases z), (fun _ _ z => by cases z)⟩
    | fz d => exact ⟨old.later g.g (fun _ _ _ z => by cases z), (fun z => by cases z), (fun _ _ z => by cases z)⟩
    | pz d => exact ⟨old.later g.g (fun _ _ _ z => by cases z), fun _ => rfl, (fun _ _ z => by cases z)⟩
    | ow m d =>
      cases ef : findArg p bs as with
      | none =>
        have nl : ∀ i : Nat, bs[i]? ≠ some (Bv.at p) := fun i hb => by
          have z := findArg_none ef hb
          have z2 := lent hb hp
          rw [List.getElem?_eq_none_iff] at z
          have z3 : (sls ++ ds.map .fz)[i]? = none := List.getElem?_eq_none_iff.mpr (by simp; omega)
          rw [z3] at z2
          cases z2
        have e : comb (.ow m d) none = .ow m d := by cases m <;> rfl
        rw [e]
        obtain ⟨a, ea, c⟩ := old
        refine ⟨⟨a, ea, c.keep g fun mo => ?_⟩, fun _ => PinTo.refl _, fun m' d' z => ⟨d', z⟩⟩
        obtain ⟨i, o⟩ := mo_ow mo
        obtain ⟨q, m', m0, d', a1, a2, a3, a4, a5⟩ := arg_ow hv hl o
        have e2 : p = q := R.dj p q a ⟨m, d, hp, ea⟩ ⟨m0, d', a3, a5⟩
        subst e2
        exact nl i a1
      | some x =>
        obtain ⟨i, hb, ha⟩ := findArg_some ef
        have hs := lent hb hp
        have sx := R'.sl i x ha
        rw [lentV hb] at sx
        obtain ⟨_, s2, hs2, pin⟩ := g.pin i _ hs (by cases m <;> rfl)
        rw [ha] at hs2
        cases hs2
        cases m with
        | own =>
          rcases pin with ⟨d', e⟩ | ⟨d', e⟩
          · subst e
            exact ⟨sx, (fun z => by cases z), (fun m' d'' z => by cases z; exact ⟨d, rfl⟩)⟩
          · subst e
            obtain ⟨a, xs, es, z1, z2, z3, z4⟩ := sx
            subst z2
            exact ⟨⟨.ref a, z1, .lst z3 z4⟩, (fun z => by cases z), (fun m' d'' z => by cases z)⟩
        | par =>
          rcases pin with ⟨d', e⟩ | ⟨d', e⟩
          · subst e
            exact ⟨sx, fun _ => .inl ⟨d', rfl⟩, (fun m' d'' z => by cases z; exact ⟨d, rfl⟩)⟩
          · subst e
            exact ⟨sx, fun _ => .inr ⟨d', rfl⟩, (fun m' d'' z => by cases z)⟩
        | lck =>
          have e : x = .ow .lck d := pin
          subst e
          exact ⟨sx, fun _ => rfl, (fun m' d'' z => by cases z; exact ⟨d, rfl⟩)⟩
  have len : (giveBack bs as ρ).length = ρ.length := by
    unfold giveBack
    rw [List.length_mapIdx]
  have back : ∀ (p : Nat) (s' : Sl), (giveBack bs as ρ)[p]? = some s' → ∃ s, ρ[p]? = some s := fun p s' h => by
    rw [give_get] at h
    cases e : ρ[p]? with
    | none => rw [e] at h; cases h
    | some s => exact ⟨s, rfl⟩
  have evo : Evo ρ (giveBack bs as ρ) := ⟨len, fun p m d' h => by
    obtain ⟨s, hs⟩ := back p _ h
    obtain ⟨s', e1, _, _, e4⟩ := slot p s hs
    rw [h] at e1
    cases e1
    obtain ⟨d, e⟩ := e4 m d' rfl
    exact ⟨d, by rw [hs, e]⟩, fun p s hp n => by
    rw [give_get, hp]
    cases s <;> first | rfl | cases n⟩
  refine ⟨⟨g.g, fun a o e n => g.keep a o e fun mo => n (moSub a mo), fun a o e z n => g.fr a o e z fun mo => n (moSub a mo), fun a mo => ?_, fun p s e pn => ?_, g.there⟩, evo, ⟨R'.ex, R.len.trans len.symm, fun p s' h => ?_, fun i j a o1 o2 => R.dj i j a (o1.evo evo) (o2.evo evo)⟩⟩
  · obtain ⟨i, m, d, n, e1, e2⟩ := mo
    obtain ⟨d', e3⟩ := evo.2 i m d e1
    exact .inl ⟨i, m, d', n, e3, e2⟩
  · obtain ⟨s', e1, _, e3, _⟩ := slot p s e
    exact ⟨rfl, s', e1, e3 pn⟩
  · obtain ⟨s, hs⟩ := back p _ h
    obtain ⟨s2, e1, e2, _, _⟩ := slot p s hs
    rw [h] at e1
    cases e1
    exact e2
end
end VE
end

section
set_option Elab.async false
set_option linter.all false
set_option maxRecDepth 100000
set_option maxHeartbeats 1000000
/-! VE6: calls in expressions. -/
namespace VE
open PySem PySem.Spec L2

section
variable {M : Mdl} {N : List Str} {E : Ev} {sc : Scope} {k : Nat} {X : Cx} {W : WX} {σ : L2.St} {ρ : Ro} {G H : Hp} {Q : VK} (S : Snd M N E)
include S
omit S in
theorem isFree_mg (O : XOk M N sc k X W) {f : Str} (h : isFree M sc f = true) : Gl X f ∧ X.mg f = none ∧ nameOk f = true := by
  obtain ⟨h1, h2⟩ := Bool.and_eq_true_iff.mp h
  refine ⟨O.glo h1, ?_, glo_name h1⟩
  split at h2
  · rename_i e
    exact O.md.free f e
  · cases h2
theorem snd_own {f : Str} {a : Expr} {r : List Expr} {p p2 : Pos} {ds : List D} (O : XOk M N sc k X W) (R : Rep X.K G H σ ρ) (hg : gloK sc f = true) (hs : (a :: r).all notStar = true) (hf : M.glob f = .fn) (ed : M.dfl f (a :: r).length = some ds)
    (h : Post X.mg X.K W σ ρ G H ((E.as sc (a :: r) ρ).bind fun bs ρ1 => (match lend ρ1 bs with
      | none => .stuck
      | some sls => (match M.call f (sls ++ ds.map .fz) with
          | .stuck => .stuck
          | .ret d b as => .ok (.va d b) (giveBack bs as ρ1)
          | .exc c fs as => .exc c fs (giveBack bs as ρ1)))) (OutC X.K σ H Q)) : WE X (.Call (.Name f p) (a :: r) [] p2) σ H Q := by
  obtain ⟨fa, fd, ps, hm, hk, F, hlen, hb, _⟩ := O.md.fn f hf
  have hs' : notStar a = true ∧ r.all notStar = true := by simpa using hs
  obtain ⟨us, dvs, hB, hV, hI⟩ := hb _ ds ed
  refine WE.mk (pe_callSD F O.room (O.glo hg) hm hk hB hV (fun σ => passAt O.tk σ) pa_wa (nameOk_dbg (glo_name hg)) (star_cons hs'.1) (star_none hs'.2)) ?_
  refine S.as O R (h.bind.imp fun bs ρ1 G1 H1 _ g1 e1 R1 h1 vs hv => ?_)
  cases el : lend ρ1 bs with
  | none => rw [el] at h1; exact h1.elim
  | some sls =>
    rw [el] at h1
    unfold lend at el
    split at el
    · rename_i hn
      have hn' := of_decide_eq_true hn
      have RA := lend_rep R1 hv el hn' (hI G1)
      have l1 := (mapM_get el).1
      have l2 := hv.len
      have l3 := (hI G1).length
      have hc : M.call f (sls ++ ds.map .fz) ≠ .stuck → (vs ++ dvs).length = ps.length := fun ne => by
        have := hlen _ ne
        simp at this ⊢
        omega
      cases ec : M.call f (sls ++ ds.map .fz) with
      | stuck => simp only [ec] at h1; exact h1.elim
      | ret d b as =>
        simp only [ec] at h1
        refine ⟨G1, sls ++ ds.map .fz, hc (by rw [ec]; exact fun z => by cases z), RA, ?_⟩
        rw [ec]
        intro v G' H' go R' ok
        obtain ⟨go2, ev, R2⟩ := call_back R1 hv el hn' (hI G1) go R'
        refine h1 G' H' go2 ev R2 v ?_
        cases b with
        | false => exact ⟨ok, fun _ _ z _ => by cases z⟩
        | true =>
          obtain ⟨x, rfl, hx, c⟩ := ok
          exact ⟨⟨x, rfl, c, fun i o => new_un R1 hx i (o.evo ev)⟩, fun _ y _ z => by cases z; exact g1.there x hx⟩
      | exc c fs as =>
        simp only [ec] at h1
        refine ⟨G1, sls ++ ds.map .fz, hc (by rw [ec]; exact fun z => by cases z), RA, ?_⟩
        rw [ec]
        intro cls dd G' H' go R' xi
        obtain ⟨go2, ev, R2⟩ := call_back R1 hv el hn' (hI G1) go R'
        exact h1 cls dd G' H' go2 ev R2 xi
    · cases el
omit S in
theorem bi_kind {f : Str} {b : Bool} (h : biK f = some b) : (b = true → ∃ id, bootBuiltins f = some (.builtin id)) ∧ (b = false → ∃ T, bootBuiltins f = some (.type T)) := by
  unfold biK at h
  split at h
  · rename_i c
    cases h
    refine ⟨fun _ => ?_, (fun z => by cases z)⟩
    simp only [List.contains_cons, List.contains_nil, Bool.or_eq_true, beq_iff_eq, Bool.false_eq_true, or_false] at c
    rcases c with rfl | rfl | rfl | rfl | rfl | rfl | rfl
    · exact ⟨_, PySem.boot_len⟩
    · exact ⟨"abs", by decide +kernel⟩
    · exact ⟨"sum", by decide +kernel⟩
    · exact ⟨"any", by decide +kernel⟩
    · exact ⟨"all", by decide +kernel⟩
    · exact ⟨"max", by decide +kernel⟩
    · exact ⟨"min", by decide +kernel⟩
  · split at h
    · rename_i c
      cases h
      refine ⟨(fun z => by cases z), fun _ => ?_⟩
      simp only [List.contains_cons, List.contains_nil, Bool.or_eq_true, beq_iff_eq, Bool.false_eq_true, or_false] at c
      rcases c with rfl | rfl | rfl | rfl
      · exact ⟨"int", by decide +kernel⟩
      · exact ⟨"str", by decide +kernel⟩
      · exact ⟨"tuple", by decide +kernel⟩
      · exact ⟨"list", by decide +kernel⟩
    · cases h
theorem snd_bi {f : Str} {a : Expr} {r : List Expr} {p p2 : Pos} {b : Bool} (O : XOk M N sc k X W) (R : Rep X.K G H σ ρ) (hg : gloK sc f = true) (hs : (a :: r).all notStar = true) (hf : M.glob f = .free) (hb : biK f = some b)
    (h : Post X.mg X.K W σ ρ G H ((E.as sc (a :: r) ρ).bind fun bs ρ1 => Rs.of (((bs.mapM (deref ρ1)).bind (biD f)).map fun z => Bv.va z.1 z.2) ρ1) (OutC X.K σ H Q)) : WE X (.Call (.Name f p) (a :: r) [] p2) σ H Q := by
  have hs' : notStar a = true ∧ r.all notStar = true := by simpa using hs
  have hm := O.md.free f hf
  -- one of the two rules
  have key : WA X (a :: r) σ H fun vs H1 => (∃ id r', bootBuiltins f = some (.builtin id) ∧ CallR X (.builtin id) r' ∧ r' vs H1 Q) ∨ (∃ T r', bootBuiltins f = some (.type T) ∧ CallR X (.type T) r' ∧ r' vs H1 Q) := by
    refine S.as O R (h.bind.imp fun bs ρ1 G1 H1 _ g1 e1 R1 h1 vs hv => ?_)
    obtain ⟨z, hz, h3⟩ := Post.of_none h1
    obtain ⟨w, hw, rfl⟩ := map_some hz
    obtain ⟨ds, hd, hw⟩ := bind_some' hw
    rcases bi_ok (X := X) (W := W) (z := w.1) (f := w.2) hw O.calm R1 (hv.deref R1 hd) (fun a ha => g1.there a ha) with ⟨id, r', b1, b2, b3⟩ | ⟨id, r', b1, b2, b3⟩
    · exact .inl ⟨id, r', b1, b2, b3 Q h3⟩
    · exact .inr ⟨id, r', b1, b2, b3 Q h3⟩
  cases b with
  | true =>
    obtain ⟨id, eb⟩ := (bi_kind hb).1 rfl
    have U : CallR X (.builtin id) fun vs H Q => (∃ id' r', bootBuiltins f = some (.builtin id') ∧ CallR X (.builtin id') r' ∧ r' vs H Q) ∨ (∃ T r', bootBuiltins f = some (.type T) ∧ CallR X (.type T) r' ∧ r' vs H Q) := fun pins s σ H xs us Q I rx q => by
      rcases q with ⟨id', r', b1, b2, b3⟩ | ⟨id', r', b1, b2, b3⟩
      · rw [eb] at b1
        cases b1
        exact b2 pins s σ H xs us Q I rx b3
      · rw [eb] at b1
        cases b1
    exact WE.mk (pe_callB U (O.glo hg) hm eb pa_wa (nameOk_nm (glo_name hg)) (nameOk_dbg (glo_name hg)) (star_cons hs'.1) (star_none hs'.2)) key
  | false =>
    obtain ⟨id, eb⟩ := (bi_kind hb).2 rfl
    have U : CallR X (.type id) fun vs H Q => (∃ id' r', bootBuiltins f = some (.builtin id') ∧ CallR X (.builtin id') r' ∧ r' vs H Q) ∨ (∃ T r', bootBuiltins f = some (.type T) ∧ CallR X (.type T) r' ∧ r' vs H Q) := fun pins s σ H xs us Q I rx q => by
      rcases q with ⟨id', r', b1, b2, b3⟩ | ⟨id', r', b1, b2, b3⟩
      · rw [eb] at b1
        cases b1
      · rw [eb] at b1
        cases b1
        exact b2 pins s σ H xs us Q I rx b3
    exact WE.mk (pe_callTy U (O.glo hg) hm eb pa_wa (nameOk_nm (glo_name hg)) (nameOk_dbg (glo_name hg)) (star_cons hs'.1) (star_none hs'.2)) key
/-! ### isinstance -/
omit S in
theorem ty_of {K : PySem.W.Frag} {v : V} {d : D} {t : String} (ex : Same G H) (h : tyD d = some t) (a : At K G H v d) : TyX K H v (.type t) := by
  cases d with
  | non => cases h; rw [a.non]; exact .base .non
  | bl b => cases h; rw [a.bl]; exact .base (.bl b)
  | int i => cases h; rw [a.int]; exact .base (.int i)
  | str s => cases h; rw [a.str]; exact .base (.str s)
  | tup ds =>
    cases h
    obtain ⟨p, us, rfl, q, _⟩ := a.tup ex
    rcases q with (q | ⟨o, q⟩) | ⟨o, its, n, q1, q2, _⟩
    · exact .base (.tup q)
    · exact .fTuple q
    · exact .kTuple q1 q2
  | lst ds =>
    cases h
    obtain ⟨p, us, rfl, q, _⟩ := a.lst ex
    exact .base (.lst q)
  | scr ds => cases h
  | obj c fs => cases h
  | dic i j =>
    cases h
    obtain ⟨p, rfl, q⟩ := a.dicAt ex
    exact .base (.dK q)
omit S in
theorem type_name {x : Str} (h : typeNames.contains x = true) : bootBuiltins x = some (.type x.toString) := by
  simp only [typeNames, List.contains_cons, List.contains_nil, Bool.or_eq_true, beq_iff_eq, Bool.false_eq_true, or_false] at h
  rcases h with rfl | rfl | rfl | rfl | rfl | rfl <;> decide +kernel
omit S in
theorem isi_any {K : PySem.W.Frag} {t : String} : ∀ {xs : List Str} {b : Bool}, isiD t xs = some b → PySem.W.kitAny K (.type t) (xs.map fun x => Value.type x.toString) = some b
  | [], b, h => by
    cases h
    rfl
  | x :: xs, b, h => by
    simp only [isiD] at h
    cases e : kitB t x.toString with
    | none => rw [e] at h; cases h
    | some c =>
      rw [e] at h
      simp only [Option.bind_some] at h
      cases c with
      | true =>
        rw [if_pos rfl] at h
        cases h
        exact kitAny_cons (kit_ty e) (fun z => by cases z) fun _ => rfl
      | false =>
        rw [if_neg Bool.false_ne_true] at h
        exact kitAny_cons (kit_ty e) (fun _ => isi_any h) fun z => by cases z
omit S in
theorem cls_pair : ∀ xs : List Str, Paired ClsV (xs.map fun x => V.ty x.toString) (xs.map fun x => Value.type x.toString)
  | [] => .nil
  | x :: xs => .cons (.ty _) (cls_pair xs)
omit S in
theorem ty_pe (O : XOk M N sc k X W) {x : Str} {p : Pos} (hf : isFree M sc x = true) (ht : typeNames.contains x = true) : PE X (.Name x p) (tC (.ty x.toString)) := by
  obtain ⟨h1, h2, h3⟩ := isFree_mg O hf
  exact pe_bltn h1 h2 (type_name ht) rfl (nameOk_nm h3) (nameOk_dbg h3)
omit S in
theorem tys_pa (O : XOk M N sc k X W) : ∀ {es : List Expr} {xs : List Str}, (es.mapM fun e => match e with
    | .Name x _ => if typeNames.contains x then some x else none
    | _ => none) = some xs → xs.all (fun x => isFree M sc x) = true → ∃ t, PA X es t ∧ ∀ σ H Q, Q (xs.map fun x => V.ty x.toString) H → t σ H Q
  | [], xs, h, _ => by
    simp at h
    subst h
    exact ⟨_, pa_nil, fun σ H Q q => q⟩
  | e :: es, xs, h, ha => by
    rw [List.mapM_cons] at h
    obtain ⟨x, hx, h⟩ := bind_some' (show _ = _ from h)
    obtain ⟨ys, hy, h⟩ := bind_some' (show _ = _ from h)
    cases h
    have ha' : isFree M sc x = true ∧ ys.all (fun x => isFree M sc x) = true := by simpa using ha
    cases e with
    | Name z p =>
      have hx' : (if typeNames.contains z then some z else none) = some x := hx
      split at hx'
      · rename_i c
        cases hx'
        obtain ⟨t, ht, q⟩ := tys_pa O hy ha'.2
        exact ⟨_, pa_cons (ty_pe O ha'.1 c) ht (star_cons rfl), fun σ H Q z => q σ H _ z⟩
      · cases hx'
    | _ => cases hx
theorem snd_isi {a c : Expr} {p p2 : Pos} {xs : List Str} (O : XOk M N sc k X W) (R : Rep X.K G H σ ρ) (hg : gloK sc "isinstance" = true) (hs : notStar a = true ∧ notStar c = true) (hf : M.glob "isinstance" = .free) (hc : clsOf c = some xs) (hl : xs.length ≤ 64) (ha : xs.all (fun x => isFree M sc x) = true)
    (h : Post X.mg X.K W σ ρ G H ((E.e sc a ρ).bind fun b ρ1 => Rs.of ((((deref ρ1 b).bind tyD).bind fun t => isiD t xs).map fun r => Bv.va (.bl r) false) ρ1) (OutC X.K σ H Q)) : WE X (.Call (.Name "isinstance" p) [a, c] [] p2) σ H Q := by
  have hm := O.md.free _ hf
  have hb : bootBuiltins "isinstance" = some (.builtin "isinstance") := by decide +kernel
  have hstar : [c].all notStar = true := by simp [hs.2]
  cases c with
  | Name x p3 =>
    simp only [clsOf] at hc
    split at hc
    · rename_i ht
      cases hc
      have hx : isFree M sc x = true := by simpa using ha
      refine WE.mk (pe_callB call_isi (O.glo hg) hm hb (pa_cons pe_we (pa_cons (ty_pe O hx ht) pa_nil (star_cons rfl)) (star_cons hs.1)) (nameOk_nm (glo_name hg)) (nameOk_dbg (glo_name hg)) (star_cons hs.1) (star_none hstar)) ?_
      refine S.e O R (h.bind.imp fun y ρ1 G1 H1 _ g1 e1 R1 h1 vy oy => ?_)
      obtain ⟨z, hz, h3⟩ := Post.of_none h1
      obtain ⟨b, eb, rfl⟩ := map_some hz
      obtain ⟨t, et, eb⟩ := bind_some' eb
      obtain ⟨d, ed, et⟩ := bind_some' et
      have q1 : kitB t x.toString = some b := by
        simp only [isiD] at eb
        cases e : kitB t x.toString with
        | none => rw [e] at eb; cases eb
        | some w =>
          rw [e] at eb
          cases w <;> (simp at eb; rw [eb])
      exact ⟨vy, _, .type t, .type x.toString, b, rfl, .ty _, ty_of R1.ex et (oy.1.deref R1 ed), kit_ty q1, out_val h3 R1 (.bl _)⟩
    · cases hc
  | Tuple es j p3 =>
    obtain ⟨t, ht, q⟩ := tys_pa O (show _ = some xs from hc) ha
    refine WE.mk (pe_callB call_isiT (O.glo hg) hm hb (pa_cons pe_we (pa_cons (pe_tup ht) pa_nil (star_cons rfl)) (star_cons hs.1)) (nameOk_nm (glo_name hg)) (nameOk_dbg (glo_name hg)) (star_cons hs.1) (star_none hstar)) ?_
    refine S.e O R (h.bind.imp fun y ρ1 G1 H1 _ g1 e1 R1 h1 vy oy => ?_)
    obtain ⟨z, hz, h3⟩ := Post.of_none h1
    obtain ⟨b, eb, rfl⟩ := map_some hz
    obtain ⟨t2, et, eb⟩ := bind_some' eb
    obtain ⟨d, ed, et⟩ := bind_some' et
    refine q _ _ _ ⟨by rw [List.length_map]; exact Nat.le_trans hl (by decide), fun tp hp => ?_⟩
    have R2 := rep_new (o := .tup (xs.map fun x => V.ty x.toString)) R1 hp
    have a2 := (oy.1.go (go_new (o := .tup (xs.map fun x => V.ty x.toString)) hp) (Evo.refl _)).deref R2 ed
    exact ⟨vy, tp, _, .type t2, _, b, rfl, upd_same, cls_pair xs, ty_of R2.ex et a2, isi_any eb, out_val (h3.later (go_new hp) (Evo.refl _)) R2 (.bl _)⟩
  | _ => cases hc
/-! ### gcd, append -/
theorem snd_gcd {f : Str} {a : Expr} {r : List Expr} {p p2 : Pos} (O : XOk M N sc k X W) (R : Rep X.K G H σ ρ) (hg : gloK sc f = true) (hs : (a :: r).all notStar = true) (hf : M.glob f = .bfn "math.gcd")
    (h : Post X.mg X.K W σ ρ G H ((E.as sc (a :: r) ρ).bind fun bs ρ1 => (match bs.mapM (deref ρ1) with
        | some [.int a, .int b] => .ok (.va (.int ((Nat.gcd a.natAbs b.natAbs : Nat) : Int)) false) ρ1
        | _ => .stuck)) (OutC X.K σ H Q)) : WE X (.Call (.Name f p) (a :: r) [] p2) σ H Q := by
  have hs' : notStar a = true ∧ r.all notStar = true := by simpa using hs
  refine WE.mk (pe_callBfun cr_gcd (O.glo hg) (O.md.bfn f _ hf) pa_wa (nameOk_dbg (glo_name hg)) (star_cons hs'.1) (star_none hs'.2)) ?_
  refine S.as O R (h.bind.imp fun bs ρ1 G1 H1 _ g1 e1 R1 h1 vs hv => ?_)
  split at h1
  · rename_i i j e
    have q := hv.deref R1 e
    cases q with | cons q1 q => cases q with | cons q2 q => cases q with | nil =>
    rw [q1.int, q2.int]
    exact ⟨i, j, rfl, out_val h1 R1 (.int _)⟩
  · exact h1.elim
omit S in
/-- a list of a slot's own is changed -/
theorem mut_ok {K : PySem.W.Frag} {i : Nat} {m : Md} {d : D} {ds' : List D} {a : Addr} {ys : List V} (R : Rep K G H σ ρ) (h : ρ[i]? = some (.ow m d)) (hm : m ≠ .lck) (ha : σ[i]? = some (some (.ref a))) (hi : IsL K G ys ds') :
    Go σ ρ G H σ (ρ.set i (.ow m (.lst ds'))) G (upd H a (.lst ys)) ∧ Evo ρ (ρ.set i (.ow m (.lst ds'))) ∧ Rep K G (upd H a (.lst ys)) σ (ρ.set i (.ow m (.lst ds'))) := by
  obtain ⟨a', ea, c1, xs, ds, c2, c3, c4⟩ := R.sl i _ h
  rw [ha] at ea
  cases ea
  have evo : Evo ρ (ρ.set i (.ow m (.lst ds'))) := ⟨List.length_set, fun j m' d' e => by
    rcases getSet e with ⟨rfl, e'⟩ | ⟨_, e'⟩
    · cases e'
      exact ⟨d, h⟩
    · exact ⟨d', e'⟩, fun j s e n => by
    rw [getSet_ne fun z => by rw [z, h] at e; cases e; cases n]
    exact e⟩
  refine ⟨⟨Same.refl _, fun x u e n => ?_, fun _ _ _ g _ => g, fun x mo => ?_, fun j s e p => ⟨rfl, ?_⟩, fun _ e => upd_none e⟩, evo, ⟨fun x u e => ?_, R.len.trans List.length_set.symm, fun j s e => ?_, fun j l x o1 o2 => R.dj j l x (o1.evo evo) (o2.evo evo)⟩⟩
  · rw [upd_ne fun z => n ⟨i, m, d, hm, h, by rw [z]; exact ha⟩]
    exact e
  · obtain ⟨j, m', d', n', e1, e2⟩ := mo
    obtain ⟨d'', e3⟩ := evo.2 j m' d' e1
    exact .inl ⟨j, m', d'', n', e3, e2⟩
  · by_cases q : j = i
    · subst q
      rw [h] at e
      cases e
      refine ⟨_, getSet_self h, ?_⟩
      cases m with
      | own => trivial
      | par => exact .inl ⟨_, rfl⟩
      | lck => exact absurd rfl hm
    · exact ⟨s, by rw [getSet_ne q]; exact e, PinTo.refl s⟩
  · rw [upd_ne fun z => by rw [z, c1] at e; cases e]
    exact R.ex x u e
  · rcases getSet e with ⟨rfl, e'⟩ | ⟨ne, e'⟩
    · subst e'
      exact ⟨a, ha, c1, ys, ds', rfl, upd_same, hi⟩
    · refine (R.sl j s e').later (Same.refl _) fun m' x d' es ex ⟨k1, zs, es', k2, k3, k4⟩ => ⟨k1, zs, es', k2, ?_, k4⟩
      rw [upd_ne fun z => ne (R.dj j i x ⟨m', d', by rw [e', es], ex⟩ ⟨m, d, h, by rw [z]; exact ha⟩)]
      exact k3
theorem snd_append {x : Str} {px : Pos} {a : Expr} {m : Str} {ap p : Pos} (O : XOk M N sc k X W) (R : Rep X.K G H σ ρ) (hm : m = "append") (hs : notStar a = true) (hl : (ap.endLine == p.line) = true)
    (h : Post X.mg X.K W σ ρ G H ((E.e sc (.Name x px) ρ).bind fun x ρ1 => (match x with
          | .at i => appS E sc a i ρ1
          | _ => .stuck)) (OutC X.K σ H Q)) : WE X (.Call (.Attribute (.Name x px) m ap) [a] [] p) σ H Q := by
  subst hm
  have few : ((backTo p (starEach [a] X.env)).all (fun x => !x.1) && (backToKw p (keywordEach [] X.env)).all (fun x => x.1.isSome)
      && decide ([a].length + ([] : List Keyword).length + (if ([] : List Keyword).isEmpty then 0 else 1) < 30)) = true := by
    rw [star_cons hs]
    rfl
  refine WE.mk (pe_bm PySem.F.plainAttrs_list PySem.F.slot_list_append PySem.F.type_list_append mt_append pe_we (pa_cons pe_we pa_nil (star_cons hs)) rfl few hl (star_cons hs) rfl) ?_
  refine S.e O R (h.bind.imp fun y ρ1 G1 H1 _ g1 e1 R1 h1 vy oy => ?_)
  cases y with
  | va d f => exact h1.elim
  | «at» i =>
    have hi : σ[i]? = some (some vy) := oy.1
    have h2 : Post X.mg X.K W σ ρ1 G1 H1 (appS E sc a i ρ1) (OutC X.K σ H Q) := h1
    unfold appS at h2
    split at h2
    case h_2 => exact h2.elim
    rename_i e0
    obtain ⟨a0, ea, _, xs0, _, _, d0, _⟩ := R1.sl i _ e0
    rw [hi] at ea
    cases ea
    refine ⟨.inl ⟨rfl, xs0, .inl (.inl d0)⟩, ?_⟩
    refine S.e O R1 (h2.bindW.imp fun v ρ2 G2 H2 _ g2 e2 R2 h2 vv ov => ?_)
    obtain ⟨d, ρ3, G3, g3, e3, R3, i3, h3⟩ := h2 vv ov
    split at h3
    · rename_i md xs e
      split at h3
      · rename_i c
        obtain ⟨c1, c2⟩ := Bool.and_eq_true_iff.mp c
        obtain ⟨a', ea, d1, us, ds, d2, d3, d4⟩ := R3.sl i _ e
        rw [hi] at ea
        cases ea
        cases d2
        have hlen := d4.length
        obtain ⟨go, ev, R4⟩ := mut_ok R3 e (of_decide_eq_true c1) hi (d4.append (IsL.one i3))
        refine ⟨a0, us, vv, rfl, rfl, d3, by rw [hlen]; exact of_decide_eq_true c2, ?_⟩
        exact h3 G3 _ go ev R4 .non ⟨.non, fun _ _ z _ => by cases z⟩
      · exact h3.elim
    · exact h3.elim
/-! ### calls with keywords -/
omit S in
theorem frame_go {K : PySem.W.Frag} {σc σc' : L2.St} {ρc ρc' : Ro} {G' H' : Hp} (hc : ∀ a, ¬ Mo σc ρc a) (g : Go σc ρc G H σc' ρc' G' H') (ex : Same G' H') (R : Rep K G H σ ρ) : Go σ ρ G H σ ρ G' H' ∧ Rep K G' H' σ ρ := by
  refine ⟨⟨g.g, fun a o e _ => g.keep a o e (hc a), fun a o e z _ => g.fr a o e z (hc a), fun a m => .inl m, fun j s e _ => ⟨rfl, s, e, PinTo.refl s⟩, g.there⟩, ⟨ex, R.len, fun i s e => (R.sl i s e).later g.g fun m a d _ _ ⟨c1, xs, ds, c2, c3, c4⟩ => ⟨g.fr a _ c3 c1 (hc a), xs, ds, c2, g.keep a _ c3 (hc a), c4.mono g.g⟩, R.dj⟩⟩
omit S in
theorem rep_fz {K : PySem.W.Frag} {vs : List V} {ds : List D} (ex : Same G H) (il : IsL K G vs ds) : Rep K G H (vs.map some) (ds.map .fz) ∧ ∀ a, ¬ Mo (vs.map some) (ds.map Sl.fz) a := by
  have no : ∀ i m d, (ds.map Sl.fz)[i]? = some (Sl.ow m d) → False := fun i m d e => by
    rw [List.getElem?_map] at e
    cases q : ds[i]? with
    | none => rw [q] at e; cases e
    | some d' => rw [q] at e; cases e
  refine ⟨⟨ex, by simp [il.length], fun i s e => ?_, fun i j a ⟨m, d, e, _⟩ _ => (no i m d e).elim⟩, fun a ⟨i, m, d, _, e, _⟩ => no i m d e⟩
  rw [List.getElem?_map] at e
  cases q : ds[i]? with
  | none => rw [q] at e; cases e
  | some d' =>
    rw [q] at e
    cases e
    obtain ⟨v, e1, e2⟩ := il.get q
    exact ⟨v, by rw [List.getElem?_map, e1]; rfl, e2⟩
omit S in
theorem run_fnNS {CX : CXT} {k n : Nat} {f : Addr} {fd : FuncData} {ps ks : List Str} {sp : Sp} {E' : XK} {g : List Value → List Value → List Value} {gV : List V → List V → List V} {pins : List (Addr × Obj)} {s : Shared} {us ws : List Value} {vs zs : List V} (F : FnOk X.prog X.w X.K X.mg X.base CX k f fd ps sp) (hr : Room k X.A) (hb : KBn X.K fd ps n ks g gV) (hx : PassesAt CX X σ E')
    (I : Inv X pins σ H s) (r : Vals vs us) (rz : Vals zs ws) (l1 : vs.length = n) (l2 : zs.length = ks.length) (h : sp (gV vs zs) H Q E') : wpAny (model X.prog X.w) X.A (call (.ref f) us (ks.zip ws)) (EP X pins σ Q) X.xe s := by
  refine wpAny_call (codeAny_mono (F.run X.A X.stack s H ⟨us, ks.zip ws⟩ (g us ws) (gV vs zs) Q E' hr I.env0 (hb.to s us ws I.kIn (r.length.symm.trans l1) (rz.length.symm.trans l2)) (hb.rel r rz) h) fun r s' hq => ?_)
  cases r with
  | error e => exact hx pins H s e s' I hq
  | ok fl =>
    cases fl with
    | ret u => exact I.after hq
    | next => exact False.elim hq
    | brk => exact False.elim hq
    | cont => exact False.elim hq
def tCallNS (n m : Nat) (sp : Sp) (gV : List V → List V → List V) (E' : L2.St → XK) (t tk : TA) : TE := fun σ H Q => t σ H fun vs H1 => tk σ H1 fun zs H2 => vs.length = n ∧ zs.length = m ∧ sp (gV vs zs) H2 Q (E' σ)
omit S in
theorem pe_callNS {CX : CXT} {k n : Nat} {f : Addr} {fd : FuncData} {ps ks : List Str} {sp : Sp} {E' : L2.St → XK} {x : Str} {p pos : Pos} {e : Expr} {es : List Expr} {kws : List Keyword} {t tk : TA} {g : List Value → List Value → List Value} {gV : List V → List V → List V} (F : FnOk X.prog X.w X.K X.mg X.base CX k f fd ps sp) (hr : Room k X.A) (hg : Gl X x) (hm : X.mg x = some (.ref f)) (hk : PySem.W.keepIn X.K (.ref f) = true) (hb : KBn X.K fd ps n ks g gV) (hx : ∀ σ, PassesAt CX X σ (E' σ))
    (ha : PA X (e :: es) t) (hkw : PK X kws tk) (hall : (backToKw pos (keywordEach kws X.env)).all (·.1.isSome) = true) (hks : (backToKw pos (keywordEach kws X.env)).filterMap (·.1) = ks)
    (hdb : (x == ("__debug__" : Str)) = false) (he : starEach (e :: es) X.env = (false, eval e X.env) :: starEach es X.env)
    (hpl : ((backTo pos (starEach (e :: es) X.env)).any (·.1) || (backToKw pos (keywordEach kws X.env)).any (·.1.isNone)) = false) :
    PE X (.Call (.Name x p) (e :: es) kws pos) (tCallNS n ks.length sp gV E' t tk) := by
  refine ⟨fun pins s σ H Q I h => ?_⟩
  refine wpAny_Call_Name_kw (ld_glob I hg hm ?_ hdb)
  refine PySem.W.callWith_KW (h₀ := X.base) I.ok.mod.kin hk hall (thn (ha.run pos pins s σ H _ I h) fun us s1 ⟨vs, H1, I1, r, q⟩ => ?_) hpl he
  refine thn (hkw.run pos pins s1 σ H1 _ I1 q) fun ws s2 ⟨zs, H2, I2, rz, l1, l2, q2⟩ => ⟨I2.kIn, ?_⟩
  rw [hks]
  exact run_fnNS F hr hb (hx σ) I2 r rz l1 l2 q2
omit S in
theorem kw_names {env : Env} {pos : Pos} : ∀ {kws : List Keyword} {ks : List Str}, kws.mapM (·.arg) = some ks → (backToKw pos (keywordEach kws env)).all (·.1.isSome) = true ∧ (backToKw pos (keywordEach kws env)).filterMap (·.1) = ks ∧ (backToKw pos (keywordEach kws env)).any (·.1.isNone) = false ∧ ks.length = kws.length
  | [], ks, h => by
    rw [List.mapM_nil] at h
    cases h
    exact ⟨rfl, rfl, rfl, rfl⟩
  | ⟨nm, e, kp⟩ :: r, ks, h => by
    rw [List.mapM_cons] at h
    cases nm with
    | none => cases h
    | some x =>
      cases q : r.mapM (·.arg) with
      | none => rw [q] at h; cases h
      | some zs =>
        rw [q] at h
        cases h
        obtain ⟨h1, h2, h3, h4⟩ := kw_names (env := env) (pos := pos) q
        have e1 : backToKw pos (keywordEach (⟨some x, e, kp⟩ :: r) env) = (some x, do let v ← eval e env; standAt pos; pure v) :: backToKw pos (keywordEach r env) := rfl
        rw [e1]
        exact ⟨by rw [List.all_cons, h1]; rfl, by rw [List.filterMap_cons]; simp only [h2], by rw [List.any_cons, h3]; rfl, by rw [List.length_cons, List.length_cons, h4]⟩
/-- the keywords' reading -/
def tKw (X : Cx) : List Keyword → TA
  | [] => tNil
  | kw :: r => tCons (WE X kw.value) (tKw X r)
omit S in
theorem pk_kw : ∀ kws : List Keyword, PK X kws (tKw X kws)
  | [] => pk_nil
  | ⟨nm, e, kp⟩ :: r => pk_cons pe_we (pk_kw r)
theorem snd_kwE (O : XOk M N sc k X W) : ∀ {kws : List Keyword} {ρ : Ro} {G H : Hp} {Q : List V → Hp → Prop}, Rep X.K G H σ ρ → Post X.mg X.K W σ ρ G H (kwE E sc kws ρ) (fun ds _ G' H' => ∀ vs, IsL X.K G' vs ds → Q vs H') → tKw X kws σ H Q
  | [], ρ, G, H, Q, R, h => h.here R [] .nil
  | kw :: r, ρ, G, H, Q, R, h => by
    simp only [kwE] at h
    show WE X kw.value σ H fun v H1 => tKw X r σ H1 fun vs H2 => Q (v :: vs) H2
    refine S.e O R (h.bindW.imp fun x ρ1 G1 H1 _ g1 e1 R1 h1 vx ox => ?_)
    obtain ⟨d, ρ2, G2, g2, e2, R2, i2, h2⟩ := h1 vx ox
    refine snd_kwE O R2 (h2.bind.imp fun ds ρ3 G3 H3 _ g3 e3 R3 h3 vs i3 => ?_)
    exact h3.here R3 _ (.cons (i2.mono g3.g) i3)
theorem snd_kw {f : Str} {a : Expr} {r : List Expr} {kws : List Keyword} {p p2 : Pos} (O : XOk M N sc k X W) (R : Rep X.K G H σ ρ) (h : Post X.mg X.K W σ ρ G H (kwS M E sc f (a :: r) kws ρ) (OutC X.K σ H Q)) : WE X (.Call (.Name f p) (a :: r) kws p2) σ H Q := by
  unfold kwS at h
  split at h
  case isFalse => exact h.elim
  rename_i c
  obtain ⟨hg, hs⟩ := Bool.and_eq_true_iff.mp c
  split at h
  case h_2 => exact h.elim
  rename_i hf
  split at h
  · exact h.elim
  rename_i ks eks
  split at h
  · exact h.elim
  rename_i pl dfs epl
  obtain ⟨fa, fd, ps, hm, hk, F, hlen, _, hkw⟩ := O.md.fn f hf
  obtain ⟨g, gV, hb, hI⟩ := hkw _ ks pl dfs epl
  have hs' : notStar a = true ∧ r.all notStar = true := by simpa using hs
  obtain ⟨n1, n2, n3, n4⟩ := kw_names (env := X.env) (pos := p2) eks
  refine WE.mk (pe_callNS F O.room (O.glo hg) hm hk hb (fun σ => passAt O.tk σ) pa_wa (pk_kw kws) n1 n2 (nameOk_dbg (glo_name hg)) (star_cons hs'.1) (by rw [n3, Bool.or_false]; exact star_none (by simpa using hs))) ?_
  refine S.es O R (h.bind.imp fun ds ρ1 G1 H1 _ g1 e1 R1 h1 vs il => ?_)
  refine snd_kwE S O R1 (h1.bind.imp fun es ρ2 G2 H2 _ g2 e2 R2 h2 zs iz => ?_)
  have il2 := il.mono g2.g
  split at h2
  case isFalse => exact h2.elim
  rename_i cl
  simp only [Bool.and_eq_true, decide_eq_true_eq] at cl
  have l1 : vs.length = (a :: r).length := il.length.trans cl.1
  have l2 : zs.length = ks.length := iz.length.trans cl.2
  have iA := hI G2 vs zs ds es il2 iz l1 l2
  obtain ⟨RA, nm⟩ := rep_fz R2.ex iA
  have hc : M.call f ((planL .non ds dfs es pl).map .fz) ≠ .stuck → (gV vs zs).length = ps.length := fun ne => by
    have := hlen _ ne
    rw [List.length_map] at this
    rw [iA.length]
    exact this
  refine ⟨l1, l2, G2, (planL .non ds dfs es pl).map .fz, hc ?_, RA, ?_⟩
  · intro z
    rw [z] at h2
    exact h2.elim
  · cases ec : M.call f ((planL .non ds dfs es pl).map .fz) with
    | stuck => rw [ec] at h2; exact h2.elim
    | ret d b as =>
      rw [ec] at h2
      intro v G' H' go R' ok
      obtain ⟨go2, R3⟩ := frame_go nm go R'.ex R2
      refine h2 G' H' go2 (Evo.refl _) R3 v ?_
      cases b with
      | false => exact ⟨ok, fun _ _ z _ => by cases z⟩
      | true =>
        obtain ⟨x, rfl, hx, c⟩ := ok
        exact ⟨⟨x, rfl, c, fun i o => new_un R2 hx i o⟩, fun _ y _ z => by cases z; exact g1.there x (g2.there x hx)⟩
    | exc c' fs as =>
      rw [ec] at h2
      intro cls dd G' H' go R' xi
      obtain ⟨go2, R3⟩ := frame_go nm go R'.ex R2
      exact h2 cls dd G' H' go2 (Evo.refl _) R3 xi
end
end VE
end

section
set_option Elab.async false
set_option linter.all false
set_option maxRecDepth 100000
set_option maxHeartbeats 1000000
/-! VE7: stores, targets, locks, what is walked. -/
namespace VE
open PySem PySem.Spec L2

/-! ### a store to a slot -/
section
variable {K : PySem.W.Frag} {G H : Hp} {σ : L2.St} {ρ ρ' : Ro} {N : List Str} {sc : Scope} {x : Str} {s : Sl} {v : V}
theorem getSetV {σ : L2.St} {i j : Nat} {s t : Option V} (h : (σ.set i s)[j]? = some t) : (j = i ∧ t = s) ∨ (j ≠ i ∧ σ[j]? = some t) := by
  by_cases e : j = i
  · subst e
    rw [List.getElem?_set_self'] at h
    cases q : σ[j]? with
    | none => rw [q] at h; cases h
    | some u => rw [q] at h; exact .inl ⟨rfl, (Option.some.inj h).symm⟩
  · rw [List.getElem?_set_ne (Ne.symm e)] at h
    exact .inr ⟨e, h⟩
theorem store_inv (h : store N sc x s ρ = some ρ') : ∃ i, ixN? N x = some i ∧ locK sc x = true ∧ mayStore ρ[i]? = true ∧ ρ' = ρ.set i s := by
  unfold store at h
  split at h
  · cases h
  · rename_i i hi
    split at h
    · rename_i c
      cases h
      obtain ⟨c1, c2⟩ := Bool.and_eq_true_iff.mp c
      exact ⟨i, hi, c1, c2, rfl⟩
    · cases h
/-- what is put into a slot: a fixed value, or a list of its own that no slot has -/
def PutOk (K : PySem.W.Frag) (G H : Hp) (σ : L2.St) (ρ : Ro) (v : V) : Sl → Prop
  | .fz d => Is K G v d
  | .ow .own d => ∃ a, v = .ref a ∧ Cell K G H a d ∧ ∀ i, ¬ OwAt σ ρ i a
  | _ => False
theorem put_ok {i : Nat} {H0 : Hp} (R : Rep K G H σ ρ) (hm : mayStore ρ[i]? = true) (p : PutOk K G H σ ρ v s) :
    Rep K G H (σ.set i (some v)) (ρ.set i s) ∧ ((∀ a, v = .ref a → (∃ d, s = .ow .own d) → H0 a = none) → ∀ {σ0 : L2.St} {ρ0 : Ro} {G0 : Hp}, Go σ0 ρ0 G0 H0 σ ρ G H → Go σ0 ρ0 G0 H0 (σ.set i (some v)) (ρ.set i s) G H) := by
  have hi : ∃ s0, ρ[i]? = some s0 ∧ pinned s0 = false := by
    cases q : ρ[i]? with
    | none => rw [q] at hm; cases hm
    | some s0 =>
      refine ⟨s0, rfl, ?_⟩
      rw [q] at hm
      cases s0 with
      | ow m d => cases m <;> first | rfl | cases hm
      | pz d => cases hm
      | _ => rfl
  obtain ⟨s0, hs0, np⟩ := hi
  have hσ : ∃ u, σ[i]? = some u := by
    have : i < ρ.length := by
      rcases Nat.lt_or_ge i ρ.length with h | h
      · exact h
      · rw [List.getElem?_eq_none_iff.mpr h] at hs0
        cases hs0
    have h2 : i < σ.length := by rw [R.len]; exact this
    exact ⟨_, List.getElem?_eq_getElem h2⟩
  obtain ⟨u, hu⟩ := hσ
  have self : (σ.set i (some v))[i]? = some (some v) := by
    rw [List.getElem?_set_self', hu]
    rfl
  have ne : ∀ j, j ≠ i → (σ.set i (some v))[j]? = σ[j]? := fun j h => List.getElem?_set_ne (Ne.symm h)
  have owAt : ∀ j a, OwAt (σ.set i (some v)) (ρ.set i s) j a → (j = i ∧ v = .ref a ∧ ∃ d, s = .ow .own d) ∨ (j ≠ i ∧ OwAt σ ρ j a) := fun j a ⟨m, d, e1, e2⟩ => by
    rcases getSet e1 with ⟨rfl, e⟩ | ⟨n, e⟩
    · rw [self] at e2
      subst e
      cases m with
      | own => exact .inl ⟨rfl, Option.some.inj (Option.some.inj e2), d, rfl⟩
      | par => exact p.elim
      | lck => exact p.elim
    · rw [ne j n] at e2
      exact .inr ⟨n, m, d, e, e2⟩
  refine ⟨⟨R.ex, by simp [R.len], fun j t e => ?_, fun j l a o1 o2 => ?_⟩, fun hn {σ0 ρ0 G0} g => ⟨g.g, g.keep, g.fr, fun a mo => ?_, fun j t e pn => ?_, g.there⟩⟩
  · rcases getSet e with ⟨rfl, e'⟩ | ⟨n, e'⟩
    · rw [self]
      subst e'
      cases t with
      | fz d => exact ⟨v, rfl, p⟩
      | ow m d =>
        cases m with
        | own =>
          obtain ⟨a, rfl, c, _⟩ := p
          exact ⟨a, rfl, c⟩
        | par => exact p.elim
        | lck => exact p.elim
      | un => exact p.elim
      | pz d => exact p.elim
    · rw [ne j n]
      exact R.sl j t e'
  · rcases owAt j a o1 with ⟨rfl, e1, d1, es1⟩ | ⟨n1, q1⟩
    · rcases owAt l a o2 with ⟨rfl, _, _⟩ | ⟨n2, q2⟩
      · rfl
      · subst es1
        obtain ⟨a', e2, _, nn⟩ := p
        rw [e1] at e2
        cases e2
        exact (nn l q2).elim
    · rcases owAt l a o2 with ⟨rfl, e1, d1, es1⟩ | ⟨n2, q2⟩
      · subst es1
        obtain ⟨a', e2, _, nn⟩ := p
        rw [e1] at e2
        cases e2
        exact (nn j q1).elim
      · exact R.dj j l a q1 q2
  · obtain ⟨j, m, d, nl, e1, e2⟩ := mo
    rcases getSet e1 with ⟨rfl, e⟩ | ⟨n, e⟩
    · rw [self] at e2
      have ev : v = .ref a := Option.some.inj (Option.some.inj e2)
      subst e
      cases m with
      | own => exact .inr (hn a ev ⟨d, rfl⟩)
      | par => exact p.elim
      | lck => exact p.elim
    · rw [ne j n] at e2
      exact g.own a ⟨j, m, d, nl, e, e2⟩
  · obtain ⟨e1, t', e2, e3⟩ := g.pin j t e pn
    have n : j ≠ i := fun z => by
      rw [z, hs0] at e2
      cases e2
      rw [e3.pin pn] at np
      cases np
    exact ⟨(ne j n).trans e1, t', by rw [getSet_ne n]; exact e2, e3⟩
theorem put_fz {i : Nat} {d : D} (R : Rep K G H σ ρ) (hm : mayStore ρ[i]? = true) (p : Is K G v d) : Go σ ρ G H (σ.set i (some v)) (ρ.set i (.fz d)) G H ∧ Rep K G H (σ.set i (some v)) (ρ.set i (.fz d)) := by
  obtain ⟨h1, h2⟩ := put_ok (H0 := H) (s := .fz d) R hm p
  exact ⟨h2 (fun _ _ ⟨_, z⟩ => by cases z) Go.refl, h1⟩
end

/-! ### targets -/
section
variable {M : Mdl} {N : List Str} {sc : Scope} {k : Nat} {X : Cx} {W : WX}
theorem pg_nm (O : XOk M N sc k X W) {x : Str} {p : Pos} {i : Nat} (hi : ixN? N x = some i) (hl : locK sc x = true) : PG X (.Name x p) (gName i) := by
  obtain ⟨h1, h2⟩ := O.loc hl
  exact pg_name (by rw [O.nm]; exact O.nd) (by rw [O.nm]; exact ixN_get hi) h1 h2
theorem assign_names {env : Env} : ∀ {es : List Expr}, es.all (nmOk N sc) = true → (assignEach es env).length = es.length ∧ (assignEach es env).findIdx? (·.1) = none
  | [], _ => ⟨rfl, rfl⟩
  | .Name x p :: es, h => by
    have h' : nmOk N sc (.Name x p) = true ∧ es.all (nmOk N sc) = true := by simpa using h
    obtain ⟨h1, h2⟩ := assign_names (env := env) h'.2
    have e : assignEach (.Name x p :: es) env = (false, assign (.Name x p) env) :: assignEach es env := rfl
    rw [e]
    refine ⟨by simp [h1], ?_⟩
    rw [List.findIdx?_cons]
    simp [h2]
def nmIx (N : List Str) : Expr → List Nat
  | .Name x _ => (ixN? N x).toList
  | _ => []
/-- the places of a target's names -/
def tgIx (N : List Str) : Expr → List Nat
  | .Name x _ => (ixN? N x).toList
  | .Tuple es _ _ => es.flatMap (nmIx N)
  | _ => []
/-- nothing but these places has changed -/
def OutSame (idx : List Nat) (σ σ' : L2.St) (ρ ρ' : Ro) : Prop := σ'.length = σ.length ∧ ρ'.length = ρ.length ∧ ∀ j, j ∉ idx → σ'[j]? = σ[j]? ∧ ρ'[j]? = ρ[j]?
/-- a target that is fit: its reading, and what it does -/
theorem tg_ok (O : XOk M N sc k X W) {tg : Expr} (ht : tgOk N sc tg = true) :
    ∃ g : TG, PG X tg g ∧ ∀ {v : V} {d : D} {σ : L2.St} {ρ ρ' : Ro} {G H : Hp} {Q : L2.St → Hp → Prop}, asgT N sc tg d ρ = some ρ' → Is X.K G v d → Rep X.K G H σ ρ →
      (∀ σ', Go σ ρ G H σ' ρ' G H → Rep X.K G H σ' ρ' → OutSame (tgIx N tg) σ σ' ρ ρ' → Q σ' H) → g v σ H Q := by
  cases tg with
  | Name x p =>
    have h' : (ixN? N x).isSome = true ∧ locK sc x = true := Bool.and_eq_true_iff.mp ht
    obtain ⟨i, hi⟩ := Option.isSome_iff_exists.mp h'.1
    refine ⟨_, pg_nm O hi h'.2, fun {v d σ ρ ρ' G H Q} ha is R q => ?_⟩
    obtain ⟨i', e1, _, e3, rfl⟩ := store_inv (show store N sc x (.fz d) ρ = some ρ' from ha)
    rw [hi] at e1
    cases e1
    obtain ⟨g, R'⟩ := put_fz R e3 is
    refine q _ g R' ⟨by simp, by simp, fun j hj => ?_⟩
    have n : j ≠ i := fun z => hj (by simp [tgIx, hi, z])
    exact ⟨List.getElem?_set_ne (Ne.symm n), getSet_ne n⟩
  | Tuple es j p =>
    have key : ∀ {es : List Expr}, es.all (nmOk N sc) = true →
        ∃ t : TGs, PGs X es t ∧ ∀ {vs : List V} {ds : List D} {σ : L2.St} {ρ ρ' : Ro} {G H : Hp} {Q : L2.St → Hp → Prop}, asgNames N sc es ds ρ = some ρ' → IsL X.K G vs ds → Rep X.K G H σ ρ →
          (∀ σ', Go σ ρ G H σ' ρ' G H → Rep X.K G H σ' ρ' → OutSame (es.flatMap (nmIx N)) σ σ' ρ ρ' → Q σ' H) → vs.length = es.length ∧ t vs σ H Q := by
      intro es
      induction es with
      | nil =>
        intro _
        refine ⟨_, pgs_nil, fun {vs ds σ ρ ρ' G H Q} ha il R q => ?_⟩
        cases ds with
        | nil =>
          cases ha
          cases il
          exact ⟨rfl, rfl, q σ Go.refl R ⟨rfl, rfl, fun _ _ => ⟨rfl, rfl⟩⟩⟩
        | cons d ds => cases ha
      | cons e es ih =>
        intro h
        cases e with
        | Name x p =>
          have h'' : nmOk N sc (.Name x p) = true ∧ es.all (nmOk N sc) = true := by simpa using h
          have h' : ((ixN? N x).isSome = true ∧ locK sc x = true) ∧ es.all (nmOk N sc) = true := ⟨Bool.and_eq_true_iff.mp h''.1, h''.2⟩
          obtain ⟨i, hi⟩ := Option.isSome_iff_exists.mp h'.1.1
          obtain ⟨t, ht, hq⟩ := ih h'.2
          refine ⟨_, pgs_cons (pg_nm O hi h'.1.2) ht, fun {vs ds σ ρ ρ' G H Q} ha il R q => ?_⟩
          cases ds with
          | nil => cases ha
          | cons d ds =>
            cases il with
            | cons i1 il =>
              obtain ⟨ρ1, e1, e2⟩ := bind_some' (show ((store N sc x (.fz d) ρ).bind fun ρ1 => asgNames N sc es ds ρ1) = some ρ' from ha)
              obtain ⟨i', e3, _, e4, rfl⟩ := store_inv e1
              rw [hi] at e3
              cases e3
              obtain ⟨g, R'⟩ := put_fz R e4 i1
              obtain ⟨l, z⟩ := hq e2 il R' fun σ' g' R'' o => q σ' (g.trans g') R'' ⟨by rw [o.1]; simp, by rw [o.2.1]; simp, fun j hj => by
                have n : j ≠ i := fun z => hj (by simp [nmIx, hi, z])
                have hj2 : j ∉ es.flatMap (nmIx N) := fun z => hj (by rw [List.flatMap_cons]; exact List.mem_append_right _ z)
                obtain ⟨o1, o2⟩ := o.2.2 j hj2
                exact ⟨o1.trans (List.getElem?_set_ne (Ne.symm n)), o2.trans (getSet_ne n)⟩⟩
              exact ⟨by simp [l], _, _, rfl, z⟩
        | _ => simp [nmOk] at h
    have ht' : es.all (nmOk N sc) = true := ht
    obtain ⟨t, h1, h2⟩ := key ht'
    obtain ⟨a1, a2⟩ := assign_names (env := X.env) ht'
    refine ⟨_, pg_tup (n := es.length) O.calm h1 a1 a2, fun {v d σ ρ ρ' G H Q} ha is R q => ?_⟩
    cases d with
    | tup ds =>
      cases is with
      | tup hh il =>
        obtain ⟨l, z⟩ := h2 (show asgNames N sc es ds ρ = some ρ' from ha) il R q
        exact ⟨_, _, rfl, sqT_mono R.ex hh, l, z⟩
    | _ => cases ha
  | _ => cases ht
end
end VE
end

section
set_option Elab.async false
set_option linter.all false
set_option maxRecDepth 100000
set_option maxHeartbeats 1000000
/-! VE8: locks, wiped slots, what is walked. -/
namespace VE
open PySem PySem.Spec L2

/-! ### a list is locked while it is walked -/
section
variable {K : PySem.W.Frag} {G H G' H' : Hp} {σ σ' : L2.St} {ρ ρ' : Ro}
theorem lock1_rep {i : Nat} {m : Md} {d : D} (R : Rep K G H σ ρ) (h : ρ[i]? = some (.ow m d)) : Rep K G H σ (ρ.set i (.ow .lck d)) := by
  have owAt : ∀ j a, OwAt σ (ρ.set i (.ow .lck d)) j a → OwAt σ ρ j a := fun j a ⟨m', d', e1, e2⟩ => by
    rcases getSet e1 with ⟨rfl, e⟩ | ⟨n, e⟩
    · exact ⟨m, d, h, e2⟩
    · exact ⟨m', d', e, e2⟩
  refine ⟨R.ex, R.len.trans List.length_set.symm, fun j s e => ?_, fun j l a o1 o2 => R.dj j l a (owAt j a o1) (owAt l a o2)⟩
  rcases getSet e with ⟨rfl, e'⟩ | ⟨n, e'⟩
  · subst e'
    have z := R.sl j _ h
    exact z
  · exact R.sl j s e'
theorem unlock1_ok {i : Nat} {m : Md} {d : D} (h : ρ[i]? = some (.ow m d)) (g : Go σ (ρ.set i (.ow .lck d)) G H σ' ρ' G' H') (R' : Rep K G' H' σ' ρ') :
    Go σ ρ G H σ' (unlock1 i m ρ') G' H' ∧ Rep K G' H' σ' (unlock1 i m ρ') := by
  obtain ⟨e1, s', e2, e3⟩ := g.pin i _ (getSet_self h) rfl
  have e4 : s' = .ow .lck d := e3
  subst e4
  have eu : unlock1 i m ρ' = ρ'.set i (.ow m d) := by
    unfold unlock1
    rw [e2]
  rw [eu]
  have owAt : ∀ j a, OwAt σ' (ρ'.set i (.ow m d)) j a → OwAt σ' ρ' j a := fun j a ⟨m', d', q1, q2⟩ => by
    rcases getSet q1 with ⟨rfl, e⟩ | ⟨n, e⟩
    · exact ⟨.lck, d, e2, q2⟩
    · exact ⟨m', d', e, q2⟩
  have moSub : ∀ a, Mo σ (ρ.set i (.ow .lck d)) a → Mo σ ρ a := fun a mo => by
    obtain ⟨j, m', d', n, q1, q2⟩ := mo
    rcases getSet q1 with ⟨_, e⟩ | ⟨_, e⟩
    · injection e with e1 _
      exact absurd e1 n
    · exact ⟨j, m', d', n, e, q2⟩
  refine ⟨⟨g.g, fun a o q n => g.keep a o q fun mo => n (moSub a mo), fun a o q z n => g.fr a o q z fun mo => n (moSub a mo), fun a mo => ?_, fun j s e p => ?_, g.there⟩,
    ⟨R'.ex, R'.len.trans List.length_set.symm, fun j s e => ?_, fun j l a o1 o2 => R'.dj j l a (owAt j a o1) (owAt l a o2)⟩⟩
  · obtain ⟨j, m', d', n, q1, q2⟩ := mo
    rcases getSet q1 with ⟨rfl, e⟩ | ⟨_, e⟩
    · cases e
      rw [e1] at q2
      exact .inl ⟨j, m, d, n, h, q2⟩
    · exact (g.own a ⟨j, m', d', n, e, q2⟩).imp (moSub a) id
  · by_cases q : j = i
    · subst q
      rw [h] at e
      cases e
      refine ⟨e1, _, getSet_self e2, ?_⟩
      cases m with
      | own => cases p
      | par => exact .inl ⟨d, rfl⟩
      | lck => rfl
    · obtain ⟨z1, t, z2, z3⟩ := g.pin j s (by rw [getSet_ne q]; exact e) p
      exact ⟨z1, t, by rw [getSet_ne q]; exact z2, z3⟩
  · rcases getSet e with ⟨rfl, e'⟩ | ⟨n, e'⟩
    · subst e'
      have z := R'.sl j _ e2
      exact z
    · exact R'.sl j s e'
/-- the slots that are to be locked -/
def LkOk (ρ : Ro) : List (Nat × Md) → Prop := fun lk => (lk.map (·.1)).Nodup ∧ ∀ p ∈ lk, ∃ d, ρ[p.1]? = some (.ow p.2 d)
theorem LkOk.tail {p : Nat × Md} {lk : List (Nat × Md)} {d : D} (h : LkOk ρ (p :: lk)) : LkOk (ρ.set p.1 (.ow .lck d)) lk := by
  obtain ⟨h1, h2⟩ := h
  have h1' := List.nodup_cons.mp (show (p.1 :: lk.map (·.1)).Nodup from h1)
  refine ⟨h1'.2, fun q hq => ?_⟩
  obtain ⟨d', e⟩ := h2 q (List.mem_cons_of_mem _ hq)
  have n : q.1 ≠ p.1 := fun z => h1'.1 (by rw [← z]; exact List.mem_map_of_mem hq)
  exact ⟨d', by rw [getSet_ne n]; exact e⟩
theorem lock_rep : ∀ {lk : List (Nat × Md)} {ρ : Ro}, LkOk ρ lk → Rep K G H σ ρ → Rep K G H σ (lockAll lk ρ)
  | [], ρ, _, R => R
  | (i, m) :: lk, ρ, h, R => by
    obtain ⟨d, e⟩ := h.2 (i, m) List.mem_cons_self
    have e' : lock1 i ρ = ρ.set i (.ow .lck d) := by
      unfold lock1
      rw [show ρ[i]? = some (.ow m d) from e]
    show Rep K G H σ (lockAll lk (lock1 i ρ))
    rw [e']
    exact lock_rep h.tail (lock1_rep R e)
theorem unlock_ok : ∀ {lk : List (Nat × Md)} {ρ : Ro}, LkOk ρ lk → Go σ (lockAll lk ρ) G H σ' ρ' G' H' → Rep K G' H' σ' ρ' → Go σ ρ G H σ' (unlockAll lk ρ') G' H' ∧ Rep K G' H' σ' (unlockAll lk ρ')
  | [], ρ, _, g, R => ⟨g, R⟩
  | (i, m) :: lk, ρ, h, g, R => by
    obtain ⟨d, e⟩ := h.2 (i, m) List.mem_cons_self
    have e' : lock1 i ρ = ρ.set i (.ow .lck d) := by
      unfold lock1
      rw [show ρ[i]? = some (.ow m d) from e]
    have g' : Go σ (lockAll lk (lock1 i ρ)) G H σ' ρ' G' H' := g
    rw [e'] at g'
    obtain ⟨g2, R2⟩ := unlock_ok h.tail g' R
    exact unlock1_ok e g2 R2
theorem unlock_evo1 {i : Nat} {m : Md} {d : D} (h : ρ[i]? = some (.ow m d)) (e : Evo (ρ.set i (.ow .lck d)) ρ') (hp : ρ'[i]? = some (.ow .lck d)) : Evo ρ (unlock1 i m ρ') := by
  have eu : unlock1 i m ρ' = ρ'.set i (.ow m d) := by
    unfold unlock1
    rw [hp]
  rw [eu]
  refine ⟨by rw [List.length_set, e.len, List.length_set], fun j m' d' q => ?_, fun j s q n => ?_⟩
  · rcases getSet q with ⟨rfl, z⟩ | ⟨ne, z⟩
    · cases z
      exact ⟨d, h⟩
    · obtain ⟨d'', z2⟩ := e.ow j m' d' z
      rw [getSet_ne ne] at z2
      exact ⟨d'', z2⟩
  · have ne : j ≠ i := fun z => by
      rw [z, h] at q
      cases q
      cases n
    rw [getSet_ne ne]
    exact e.stay j s (by rw [getSet_ne ne]; exact q) n
theorem unlock_evo : ∀ {lk : List (Nat × Md)} {ρ : Ro}, LkOk ρ lk → Go σ (lockAll lk ρ) G H σ ρ' G' H' → Rep K G' H' σ ρ' → Evo (lockAll lk ρ) ρ' → Evo ρ (unlockAll lk ρ')
  | [], ρ, _, g, _, e => e
  | (i, m) :: lk, ρ, h, g, R, ev => by
    obtain ⟨d, e⟩ := h.2 (i, m) List.mem_cons_self
    have e' : lock1 i ρ = ρ.set i (.ow .lck d) := by
      unfold lock1
      rw [show ρ[i]? = some (.ow m d) from e]
    have g' : Go σ (lockAll lk (lock1 i ρ)) G H σ ρ' G' H' := g
    have ev' : Evo (lockAll lk (lock1 i ρ)) ρ' := ev
    rw [e'] at g' ev'
    obtain ⟨g2, R2⟩ := unlock_ok h.tail g' R
    obtain ⟨_, s', z2, z3⟩ := g2.pin i _ (getSet_self e) rfl
    have z4 : s' = .ow .lck d := z3
    subst z4
    exact unlock_evo1 e (unlock_evo h.tail g' R ev') z2
end

/-! ### what is walked -/
/-- J walks over these; from the state (σ, ρ, G, H) on -/
def WlkOk (K : PySem.W.Frag) (σ : L2.St) (ρ : Ro) (G H : Hp) (J : It) (ds : List D) : Prop := ∃ (Gp : Hp → Prop) (Y : Nat → Hp → V → Hp → Prop), Walk J ds.length Gp Y ∧
  (∀ σ' ρ' G' H', Go σ ρ G H σ' ρ' G' H' → Rep K G' H' σ' ρ' → Gp H') ∧
  ∀ i Hc x Hc', Y i Hc x Hc' → ∀ σ' ρ' G', Go σ ρ G H σ' ρ' G' Hc → Rep K G' Hc σ' ρ' → ∃ G'' d, ds[i]? = some d ∧ Is K G'' x d ∧ Go σ' ρ' G' Hc σ' ρ' G'' Hc' ∧ Rep K G'' Hc' σ' ρ'
section
variable {K : PySem.W.Frag} {G H : Hp} {σ : L2.St} {ρ : Ro} {a b : Addr} {us ws : List V} {ds es : List D}
theorem wlk_list (i : IsL K G us ds) (hk : ∀ σ' ρ' G' H', Go σ ρ G H σ' ρ' G' H' → Rep K G' H' σ' ρ' → SqL K H' a us) : WlkOk K σ ρ G H (Itl K a) ds := by
  refine ⟨fun H' => SqL K H' a us, YAt us, ?_, hk, fun j Hc x Hc' y σ' ρ' G' g R => ?_⟩
  · rw [← i.length]
    exact walk_list
  · obtain ⟨rfl, e⟩ := y
    obtain ⟨d, e1, e2⟩ := i.getV e
    exact ⟨G', d, e1, e2.mono g.g, Go.refl, R⟩
theorem wlk_tup (i : IsL K G us ds) (h : SqT K G a us) : WlkOk K σ ρ G H (Itt K a) ds := by
  refine ⟨fun H' => SqT K H' a us, YAt us, ?_, fun σ' ρ' G' H' g R => sqT_mono (g.g.trans R.ex) h, fun j Hc x Hc' y σ' ρ' G' g R => ?_⟩
  · rw [← i.length]
    exact walk_tup
  · obtain ⟨rfl, e⟩ := y
    obtain ⟨d, e1, e2⟩ := i.getV e
    exact ⟨G', d, e1, e2.mono g.g, Go.refl, R⟩
theorem rng_get {lo : Int} {n i : Nat} (h : i < n) : (rngD lo n)[i]? = some (.int (lo + (i : Int))) := by
  unfold rngD
  rw [List.getElem?_map, List.getElem?_range h]
  rfl
theorem wlk_range {lo : Int} {n : Nat} : WlkOk K σ ρ G H (Itr lo n) (rngD lo n) := by
  have hl : (rngD lo n).length = n := by simp [rngD]
  refine ⟨fun _ => True, fun i H x H' => i < n ∧ YFn (fun i => .int (lo + i)) i H x H', ?_, fun _ _ _ _ _ _ => trivial, ?_⟩
  · rw [hl]
    exact walk_range.mono (fun _ h => h) fun i H x H' hi _ y => ⟨hi, y⟩
  · rintro i Hc x Hc' ⟨hi, rfl, rfl⟩ σ' ρ' G' g R
    exact ⟨G', _, rng_get hi, .int _, Go.refl, R⟩
theorem pair_ok {x y : V} {T : Addr} {dx dy : D} {Hc G' : Hp} {σ' : L2.St} {ρ' : Ro} (R : Rep K G' Hc σ' ρ') (hT : Hc T = none) (hx : Is K G' x dx) (hy : Is K G' y dy) :
    ∃ G'', Is K G'' (.ref T) (.tup [dx, dy]) ∧ Go σ' ρ' G' Hc σ' ρ' G'' (upd Hc T (.tup [x, y])) ∧ Rep K G'' (upd Hc T (.tup [x, y])) σ' ρ' := by
  have sg := same_upd (o := .tup [x, y]) (R.gnone hT)
  exact ⟨upd G' T (.tup [x, y]), .tup (.inl (.inl upd_same)) (.cons (hx.mono sg) (.cons (hy.mono sg) .nil)), go_fix R hT, rep_fix R hT⟩
theorem wlk_enum (i : IsL K G us ds) (hk : ∀ σ' ρ' G' H', Go σ ρ G H σ' ρ' G' H' → Rep K G' H' σ' ρ' → SqL K H' a us) : WlkOk K σ ρ G H (Ite K a) (enumD ds) := by
  have hl : (enumD ds).length = ds.length := by simp [enumD]
  refine ⟨fun H' => SqL K H' a us, YPair (fun i => some (.int (i : Nat))) (fun i => us[i]?), ?_, hk, ?_⟩
  · rw [hl, ← i.length]
    exact walk_enum
  · rintro j Hc x Hc' ⟨T, y, z, rfl, hT, rfl, e1, e2⟩ σ' ρ' G' g R
    obtain ⟨d, e3, e4⟩ := i.getV e2
    cases e1
    obtain ⟨G'', q1, q2, q3⟩ := pair_ok R hT (.int (j : Int)) (e4.mono g.g)
    refine ⟨G'', _, ?_, q1, q2, q3⟩
    unfold enumD
    have hj : j < ds.length := by
      rcases Nat.lt_or_ge j ds.length with h | h
      · exact h
      · rw [List.getElem?_eq_none_iff.mpr h] at e3
        cases e3
    rw [List.getElem?_map, List.getElem?_zip_eq_some (z := (j, d)) |>.mpr ⟨List.getElem?_range hj, e3⟩]
    rfl
theorem wlk_zip (i : IsL K G us ds) (i2 : IsL K G ws es) (hk : ∀ σ' ρ' G' H', Go σ ρ G H σ' ρ' G' H' → Rep K G' H' σ' ρ' → SqL K H' a us) (hk2 : ∀ σ' ρ' G' H', Go σ ρ G H σ' ρ' G' H' → Rep K G' H' σ' ρ' → SqL K H' b ws) :
    WlkOk K σ ρ G H (Itz K a b) (zipD ds es) := by
  have hl : (zipD ds es).length = min us.length ws.length := by simp [zipD, i.length, i2.length]
  refine ⟨fun H' => SqL K H' a us ∧ SqL K H' b ws, _, walk_zip hl, fun σ' ρ' G' H' g R => ⟨hk σ' ρ' G' H' g R, hk2 σ' ρ' G' H' g R⟩, ?_⟩
  rintro j Hc x Hc' ⟨T, y, z, rfl, hT, rfl, e1, e2⟩ σ' ρ' G' g R
  obtain ⟨d, e3, e4⟩ := i.getV e1
  obtain ⟨d2, e5, e6⟩ := i2.getV e2
  obtain ⟨G'', q1, q2, q3⟩ := pair_ok R hT (e4.mono g.g) (e6.mono g.g)
  refine ⟨G'', _, ?_, q1, q2, q3⟩
  unfold zipD
  rw [List.getElem?_map, List.getElem?_zip_eq_some (z := (d, d2)) |>.mpr ⟨e3, e5⟩]
  rfl
end

/-! ### the source of a walk -/
def WI (X : Cx) (tg it : Expr) (σ : L2.St) (H : Hp) (R : It → Hp → Prop) : Prop := ∃ wi, PI X tg it wi ∧ wi σ H R
theorem pi_wi {X : Cx} {tg it : Expr} : PI X tg it (WI X tg it) := ⟨fun pins s σ H R I ⟨_, hw, h⟩ => hw.run pins s σ H R I h⟩
theorem WI.mk {X : Cx} {tg it : Expr} {wi : TI} {σ : L2.St} {H : Hp} {R : It → Hp → Prop} (h : PI X tg it wi) (q : wi σ H R) : WI X tg it σ H R := ⟨wi, h, q⟩
section
variable {K : PySem.W.Frag} {G H : Hp} {σ : L2.St} {ρ : Ro}
theorem lock_get : ∀ {lk : List (Nat × Md)} {ρ : Ro} {j : Nat}, LkOk ρ lk → (j ∈ lk.map (·.1) → ∃ d, (lockAll lk ρ)[j]? = some (.ow .lck d)) ∧ (j ∉ lk.map (·.1) → (lockAll lk ρ)[j]? = ρ[j]?)
  | [], ρ, j, _ => ⟨fun h => by simp at h, fun _ => rfl⟩
  | (i, m) :: lk, ρ, j, h => by
    obtain ⟨d, e⟩ := h.2 (i, m) List.mem_cons_self
    have e' : lock1 i ρ = ρ.set i (.ow .lck d) := by
      unfold lock1
      rw [show ρ[i]? = some (.ow m d) from e]
    have h1' := List.nodup_cons.mp (show (i :: lk.map (·.1)).Nodup from h.1)
    show (j ∈ i :: lk.map (·.1) → ∃ d, (lockAll lk (lock1 i ρ))[j]? = _) ∧ (j ∉ i :: lk.map (·.1) → (lockAll lk (lock1 i ρ))[j]? = _)
    rw [e']
    obtain ⟨q1, q2⟩ := lock_get (lk := lk) (j := j) h.tail
    refine ⟨fun hj => ?_, fun hj => ?_⟩
    · by_cases z : j ∈ lk.map (·.1)
      · exact q1 z
      · rcases List.mem_cons.mp hj with rfl | hj
        · exact ⟨d, (q2 z).trans (getSet_self e)⟩
        · exact absurd hj z
    · have n : j ≠ i := fun z => hj (by rw [z]; exact List.mem_cons_self)
      exact (q2 fun z => hj (List.mem_cons_of_mem _ z)).trans (getSet_ne n)
/-- a locked list is not to be changed -/
theorem locked_mo {lk : List (Nat × Md)} {i : Nat} {m : Md} {d : D} {a : Addr} (R : Rep K G H σ ρ) (h : LkOk ρ lk) (hi : (i, m) ∈ lk) (e : ρ[i]? = some (.ow m d)) (ea : σ[i]? = some (some (.ref a))) : ¬ Mo σ (lockAll lk ρ) a := fun ⟨j, m', d', n, q1, q2⟩ => by
  obtain ⟨z1, z2⟩ := lock_get (j := j) h
  by_cases hj : j ∈ lk.map (·.1)
  · obtain ⟨d'', z⟩ := z1 hj
    rw [q1] at z
    injection z with z
    injection z with z _
    exact n z
  · have z := z2 hj
    rw [q1] at z
    have := R.dj j i a ⟨m', d', z.symm, q2⟩ ⟨m, d, e, ea⟩
    exact hj (by rw [this]; exact List.mem_map_of_mem (f := (·.1)) hi)
theorem mo_lockSub {lk : List (Nat × Md)} {a : Addr} (h : LkOk ρ lk) (mo : Mo σ (lockAll lk ρ) a) : Mo σ ρ a := by
  obtain ⟨j, m', d', n, q1, q2⟩ := mo
  obtain ⟨z1, z2⟩ := lock_get (j := j) h
  by_cases hj : j ∈ lk.map (·.1)
  · obtain ⟨d'', z⟩ := z1 hj
    rw [q1] at z
    injection z with z
    injection z with z _
    exact absurd z n
  · exact ⟨j, m', d', n, (z2 hj) ▸ q1, q2⟩
/-- a value that is walked as a list: what is known of it -/
def Src (K : PySem.W.Frag) (σ : L2.St) (ρ : Ro) (G H : Hp) (v : V) (ds : List D) : Prop := ∃ a us, v = .ref a ∧ IsL K G us ds ∧ SqL K H a us ∧ ∀ σ' ρ' G' H', Go σ ρ G H σ' ρ' G' H' → Rep K G' H' σ' ρ' → SqL K H' a us
theorem walkL_ok {b : Bv} {v : V} {ds : List D} {lk lk2 : List (Nat × Md)} (R : Rep K G H σ ρ) (dn : Den K G H σ ρ v b) (h : walkL b ρ = some (ds, lk)) (hl : LkOk ρ lk2) (hs : ∀ p ∈ lk, p ∈ lk2) : Src K σ (lockAll lk2 ρ) G H v ds := by
  have fixd : ∀ {a us}, G a = some (.lst us) → IsL K G us ds → Src K σ (lockAll lk2 ρ) G H (.ref a) ds := fun {a us} e i =>
    ⟨a, us, rfl, i, .inl (.inl (R.ex _ _ e)), fun σ' ρ' G' H' g R' => .inl (.inl (R'.ex _ _ (g.g _ _ e)))⟩
  cases b with
  | va d f =>
    cases d with
    | lst xs =>
      cases h
      cases f with
      | false =>
        cases dn with
        | lst e i => exact fixd e i
      | true =>
        obtain ⟨a, rfl, ⟨c1, us, es, c2, c3, c4⟩, n⟩ := dn
        cases c2
        exact ⟨a, us, rfl, c4, .inl (.inl c3), fun σ' ρ' G' H' g R' => .inl (.inl (g.keep a _ c3 fun mo => by
          obtain ⟨i, q⟩ := mo_ow (mo_lockSub hl mo)
          exact n i q))⟩
    | _ => cases h
  | «at» i =>
    have hv : σ[i]? = some (some v) := dn
    simp only [walkL] at h
    split at h
    · rename_i xs e
      cases h
      obtain ⟨v', z1, z2⟩ := R.sl i _ e
      rw [hv] at z1
      cases z1
      cases z2 with
      | lst e i => exact fixd e i
    · rename_i xs e
      cases h
      obtain ⟨a, us, es, z1, z2, z3, z4⟩ := R.sl i _ e
      rw [hv] at z1
      cases z1
      cases z2
      exact fixd z3 z4
    · rename_i m xs e
      cases h
      obtain ⟨a, z1, c1, us, es, c2, c3, c4⟩ := R.sl i _ e
      rw [hv] at z1
      cases z1
      cases c2
      have nm := locked_mo R hl (hs (i, m) List.mem_cons_self) e hv
      exact ⟨a, us, rfl, c4, .inl (.inl c3), fun σ' ρ' G' H' g R' => .inl (.inl (g.keep a _ c3 nm))⟩
    · cases h
theorem walkL_lk {b : Bv} {ds : List D} {lk : List (Nat × Md)} (h : walkL b ρ = some (ds, lk)) : ∀ p ∈ lk, ∃ d, ρ[p.1]? = some (.ow p.2 d) := by
  cases b with
  | va d f =>
    cases d with
    | lst xs => cases h; intro p hp; cases hp
    | _ => cases h
  | «at» i =>
    simp only [walkL] at h
    split at h
    · cases h; intro p hp; cases hp
    · cases h; intro p hp; cases hp
    · rename_i m xs e
      cases h
      intro p hp
      rcases List.mem_cons.mp hp with rfl | hp
      · exact ⟨_, e⟩
      · cases hp
    · cases h
end
end VE
end

section
set_option Elab.async false
set_option linter.all false
set_option maxRecDepth 100000
set_option maxHeartbeats 1000000
/-! VE9: the sources of walks; for, while. -/
namespace VE
open PySem PySem.Spec L2

def IkOk (M : Mdl) (sc : Scope) (tg it : Expr) : Ik → Prop
  | .gen => True
  | .rng1 a => ∃ p q, it = .Call (.Name "range" p) [a] [] q ∧ isFree M sc "range" = true ∧ notStar a = true
  | .rng2 a b => ∃ p q, it = .Call (.Name "range" p) [a, b] [] q ∧ isFree M sc "range" = true ∧ notStar a = true ∧ notStar b = true
  | .enu a => ∃ p q, it = .Call (.Name "enumerate" p) [a] [] q ∧ isFree M sc "enumerate" = true ∧ notStar a = true ∧ isTupE tg = true
  | .zip a b => ∃ p q, it = .Call (.Name "zip" p) [a, b] [] q ∧ isFree M sc "zip" = true ∧ notStar a = true ∧ notStar b = true ∧ isTupE tg = true
  | .rev a => ∃ p q, it = .Call (.Name "reversed" p) [a] [] q ∧ isFree M sc "reversed" = true ∧ notStar a = true
/-- a text's signs -/
theorem wlk_str {K : PySem.W.Frag} {σ : L2.St} {ρ : Ro} {G H : Hp} {z : Str} : WlkOk K σ ρ G H (Its z) (z.cps.toList.map fun c => .str ⟨#[c]⟩) := by
  have hl : (z.cps.toList.map fun c => (D.str ⟨#[c]⟩)).length = z.cps.size := by simp
  refine ⟨fun _ => True, fun i H v H' => H' = H ∧ ∃ c, z.cps[i]? = some c ∧ v = .str ⟨#[c]⟩, ?_, fun _ _ _ _ _ _ => trivial, ?_⟩
  · rw [hl]
    exact walk_str
  · rintro i Hc x Hc' ⟨rfl, c, ec, rfl⟩ σ' ρ' G' g R
    refine ⟨G', .str ⟨#[c]⟩, ?_, .str _, Go.refl, R⟩
    rw [List.getElem?_map, Array.getElem?_toList, ec]
    rfl
theorem IsL.reverse {K : PySem.W.Frag} {G : Hp} : ∀ {vs : List V} {ds : List D}, IsL K G vs ds → IsL K G vs.reverse ds.reverse
  | _, _, .nil => .nil
  | _, _, .cons h r => by
    rw [List.reverse_cons, List.reverse_cons]
    exact r.reverse.append (IsL.one h)
theorem wlk_rev {K : PySem.W.Frag} {σ : L2.St} {ρ : Ro} {G H : Hp} {a : Addr} {us : List V} {ds : List D} (i : IsL K G us ds) (hk : ∀ σ' ρ' G' H', Go σ ρ G H σ' ρ' G' H' → Rep K G' H' σ' ρ' → SqL K H' a us) : WlkOk K σ ρ G H (Itv K a us.length) ds.reverse := by
  refine ⟨fun H' => SqL K H' a us, fun i H x H' => i < us.length ∧ H' = H ∧ us[us.length - 1 - i]? = some x, ?_, hk, fun j Hc x Hc' y σ' ρ' G' g R => ?_⟩
  · rw [List.length_reverse, ← i.length]
    exact walk_rev.mono (fun _ h => h) fun i H x H' hi _ y => ⟨hi, y⟩
  · obtain ⟨hlt, rfl, e⟩ := y
    obtain ⟨d, e1, e2⟩ := i.getV e
    refine ⟨G', d, ?_, e2.mono g.g, Go.refl, R⟩
    rw [List.getElem?_reverse (by rw [← i.length]; exact hlt), ← i.length]
    exact e1
section
variable {M : Mdl} {N : List Str} {E : Ev} {sc : Scope} {k : Nat} {X : Cx} {W : WX} {σ : L2.St} {ρ : Ro} {G H : Hp} {Rr : It → Hp → Prop} (S : Snd M N E)
include S
/-- what is wanted of a walk that begins -/
abbrev IterC (X : Cx) (σ : L2.St) (Rr : It → Hp → Prop) : List D × List (Nat × Md) → Ro → Hp → Hp → Prop := fun w ρ1 G1 H1 => LkOk ρ1 w.2 → ∀ J, WlkOk X.K σ (lockAll w.2 ρ1) G1 H1 J w.1 → Rr J H1
omit S in
theorem lk_nil {ρ : Ro} : LkOk ρ [] := ⟨List.nodup_nil, fun p hp => by cases hp⟩
omit S in
theorem lk_one {b : Bv} {ds : List D} {lk : List (Nat × Md)} (h : walkL b ρ = some (ds, lk)) : LkOk ρ lk := by
  refine ⟨?_, walkL_lk h⟩
  cases b with
  | va d f =>
    cases d with
    | lst xs => cases h; exact List.nodup_nil
    | _ => cases h
  | «at» i =>
    simp only [walkL] at h
    split at h
    · cases h; exact List.nodup_nil
    · cases h; exact List.nodup_nil
    · cases h; simp
    · cases h
theorem iter_gen {tg it : Expr} (O : XOk M N sc k X W) (R : Rep X.K G H σ ρ) (h : Post X.mg X.K W σ ρ G H ((E.e sc it ρ).bind fun b ρ1 => Rs.of (walkB b ρ1) ρ1) (IterC X σ Rr)) : WI X tg it σ H Rr := by
  -- a tuple, or a list
  by_cases ht : ∃ xs f ρ1, E.e sc it ρ = .ok (.va (.tup xs) f) ρ1
  · obtain ⟨xs, f, ρ1, q⟩ := ht
    refine WI.mk (pi_tup pe_we) ?_
    refine S.e O R (h.bind.imp fun b ρ1 G1 H1 eq g1 e1 R1 h1 v ov => ?_)
    rw [q] at eq
    cases eq
    have it := At.isTup (Den.deref R1 ov.1 rfl)
    cases it with
    | tup hh il =>
      exact ⟨_, rfl, ⟨_, sqT_mono R1.ex hh⟩, h1.here R1 lk_nil _ (wlk_tup il hh)⟩
  · by_cases hs : ∃ z f ρ1, E.e sc it ρ = .ok (.va (.str z) f) ρ1
    · obtain ⟨z, f, ρ1, q⟩ := hs
      refine WI.mk (pi_str pe_we) ?_
      refine S.e O R (h.bind.imp fun b ρ1 G1 H1 eq g1 e1 R1 h1 v ov => ?_)
      rw [q] at eq
      cases eq
      have it := (Den.deref R1 ov.1 rfl).str
      exact ⟨z, it, h1.here R1 lk_nil _ wlk_str⟩
    refine WI.mk (pi_list pe_we) ?_
    refine S.e O R (h.bind.imp fun b ρ1 G1 H1 eq g1 e1 R1 h1 v ov => ?_)
    obtain ⟨w, hw, h2⟩ := Post.of_none h1
    obtain ⟨ds, lk⟩ := w
    have key : LkOk ρ1 lk → Src X.K σ (lockAll lk ρ1) G1 H1 v ds → ∃ a, v = V.ref a ∧ (∃ xs, SqL X.K H1 a xs) ∧ Rr (Itl X.K a) H1 := fun hl src => by
      obtain ⟨a, us, rfl, il, s1, s2⟩ := src
      exact ⟨a, rfl, ⟨us, s1⟩, h2.here R1 hl _ (wlk_list il s2)⟩
    have lst : walkL b ρ1 = some (ds, lk) → ∃ a, v = V.ref a ∧ (∃ xs, SqL X.K H1 a xs) ∧ Rr (Itl X.K a) H1 := fun hw => by
      have hl := lk_one hw
      exact key hl (walkL_ok R1 ov.1 hw hl fun p hp => hp)
    cases b with
    | «at» i => exact lst hw
    | va d f =>
      cases d with
      | tup _ => exact absurd ⟨_, f, ρ1, eq⟩ ht
      | str _ => exact absurd ⟨_, f, ρ1, eq⟩ hs
      | scr xs =>
        cases hw
        have q := Den.deref R1 ov.1 rfl
        rcases q with q | ⟨_, _, _, _, _, z, _⟩
        · cases q with
          | scr hh il => exact key lk_nil ⟨_, _, rfl, il, sqL_mono R1.ex hh, fun σ' ρ' G' H' g R' => sqL_mono (g.g.trans R'.ex) hh⟩
        · cases z
      | _ => exact lst hw
omit S in
theorem small_of {i : Int} (h : small62 i = true) : -(2 ^ 62) ≤ i ∧ i < 2 ^ 62 := by
  simp only [small62, Bool.and_eq_true, decide_eq_true_eq] at h
  exact h
omit S in
theorem iterK_ok {tg it : Expr} : IkOk M sc tg it (iterK M sc tg it) := by
  unfold iterK
  split
  · rename_i f p a q
    split
    · rename_i c
      obtain ⟨c1, c2⟩ := Bool.and_eq_true_iff.mp c
      split
      · rename_i e
        subst e
        exact ⟨p, q, rfl, c1, c2⟩
      · split
        · rename_i e
          subst e
          split
          · rename_i c3
            exact ⟨p, q, rfl, c1, c2, c3⟩
          · exact True.intro
        · split
          · rename_i e
            subst e
            exact ⟨p, q, rfl, c1, c2⟩
          · exact True.intro
    · exact True.intro
  · rename_i f p a b q
    split
    · rename_i c
      obtain ⟨c1, c2⟩ := Bool.and_eq_true_iff.mp c
      obtain ⟨c2, c3⟩ := Bool.and_eq_true_iff.mp c2
      split
      · rename_i e
        subst e
        exact ⟨p, q, rfl, c1, c2, c3⟩
      · split
        · rename_i e
          subst e
          split
          · rename_i c4
            exact ⟨p, q, rfl, c1, c2, c3, c4⟩
          · exact True.intro
        · exact True.intro
    · exact True.intro
  · exact True.intro
theorem snd_iter {tg it : Expr} (O : XOk M N sc k X W) (R : Rep X.K G H σ ρ) (h : Post X.mg X.K W σ ρ G H (iterS M E sc tg it ρ) (IterC X σ Rr)) : WI X tg it σ H Rr := by
  have kk := iterK_ok (M := M) (sc := sc) (tg := tg) (it := it)
  unfold iterS at h
  split at h
  · exact iter_gen S O R h
  · rename_i a e
    rw [e] at kk
    obtain ⟨p, q, rfl, c1, hs⟩ := kk
    obtain ⟨hg, hm, _⟩ := isFree_mg O c1
    refine WI.mk (pi_range1 hg hm (pa_cons pe_we pa_nil (star_cons hs)) (star_cons hs)) ?_
    refine S.e O R (h.bind.imp fun b ρ1 G1 H1 _ g1 e1 R1 h1 v ov => ?_)
    split at h1
    · rename_i j ej
      split at h1
      · rename_i cc
        obtain ⟨s1, s2⟩ := small_of cc
        exact ⟨j, by rw [(ov.1.deref R1 ej).int], s1, s2, h1.here R1 lk_nil _ wlk_range⟩
      · exact h1.elim
    · exact h1.elim
  · rename_i a b e
    rw [e] at kk
    obtain ⟨p, q, rfl, c1, hs, hs2⟩ := kk
    obtain ⟨hg, hm, _⟩ := isFree_mg O c1
    refine WI.mk (pi_range2 hg hm (pa_cons pe_we (pa_cons pe_we pa_nil (star_cons hs2)) (star_cons hs)) (by rw [star_cons hs, star_cons hs2]; rfl) (star_cons hs2)) ?_
    refine S.e O R (h.bind.imp fun x ρ1 G1 H1 _ g1 e1 R1 h1 vx ox => ?_)
    refine S.e O R1 (h1.bind.imp fun y ρ2 G2 H2 _ g2 e2 R2 h2 vy oy => ?_)
    split at h2
    · rename_i i j ei ej
      split at h2
      · rename_i cc
        obtain ⟨cc1, cc2⟩ := Bool.and_eq_true_iff.mp cc
        obtain ⟨s1, s2⟩ := small_of cc1
        obtain ⟨s3, s4⟩ := small_of cc2
        exact ⟨i, j, by rw [((ox.1.go g2 e2).deref R2 ei).int, (oy.1.deref R2 ej).int], ⟨s1, s2, s3, s4⟩, h2.here R2 lk_nil _ wlk_range⟩
      · exact h2.elim
    · exact h2.elim
  · rename_i a e
    rw [e] at kk
    obtain ⟨p, q, rfl, c1, hs, ht⟩ := kk
    obtain ⟨hg, hm, _⟩ := isFree_mg O c1
    cases tg with
    | Tuple es j tp =>
      refine WI.mk (pi_enum hg hm (pa_cons pe_we pa_nil (star_cons hs)) (star_cons hs)) ?_
      refine S.e O R (h.bind.imp fun b ρ1 G1 H1 _ g1 e1 R1 h1 v ov => ?_)
      obtain ⟨w, hw, h2⟩ := Post.of_none h1
      obtain ⟨⟨ds, lk⟩, hwl, rfl⟩ := map_some hw
      have hl := lk_one hwl
      obtain ⟨a', us, rfl, il, s1, s2⟩ := walkL_ok R1 ov.1 hwl hl fun p hp => hp
      exact ⟨a', us, rfl, s1, h2.here R1 hl _ (wlk_enum il s2)⟩
    | _ => cases ht
  · rename_i a e
    rw [e] at kk
    obtain ⟨p, q, rfl, c1, hs⟩ := kk
    obtain ⟨hg, hm, _⟩ := isFree_mg O c1
    refine WI.mk (RT.pi_revA hg hm pe_we (star_cons hs)) ?_
    refine S.e O R (h.bind.imp fun b ρ1 G1 H1 _ g1 e1 R1 h1 v ov => ?_)
    obtain ⟨w, hw, h2⟩ := Post.of_none h1
    obtain ⟨⟨ds, lk⟩, hwl, rfl⟩ := map_some hw
    have hl := lk_one hwl
    obtain ⟨a', us, rfl, il, s1, s2⟩ := walkL_ok R1 ov.1 hwl hl fun p hp => hp
    exact ⟨a', us, rfl, .inl ⟨s1, h2.here R1 hl _ (wlk_rev il s2)⟩⟩
  · rename_i a b e
    rw [e] at kk
    obtain ⟨p, q, rfl, c1, hs, hs2, ht⟩ := kk
    obtain ⟨hg, hm, _⟩ := isFree_mg O c1
    cases tg with
    | Tuple es j tp =>
      refine WI.mk (pi_zip hg hm (pa_cons pe_we (pa_cons pe_we pa_nil (star_cons hs2)) (star_cons hs)) (star_cons hs) (star_none (by simp [hs2]))) ?_
      refine S.e O R (h.bind.imp fun x ρ1 G1 H1 _ g1 e1 R1 h1 vx ox => ?_)
      refine S.e O R1 (h1.bind.imp fun y ρ2 G2 H2 _ g2 e2 R2 h2 vy oy => ?_)
      obtain ⟨w, hw, h3⟩ := Post.of_none h2
      obtain ⟨⟨ds, lk⟩, hw1, hw⟩ := bind_some' hw
      obtain ⟨⟨es', lk2⟩, hw2, hw⟩ := bind_some' hw
      split at hw
      · rename_i nd
        cases hw
        have hl : LkOk ρ2 (lk ++ lk2) := ⟨of_decide_eq_true nd, fun p hp => (List.mem_append.mp hp).elim (walkL_lk hw1 p) (walkL_lk hw2 p)⟩
        obtain ⟨a', us, rfl, il, s1, s2⟩ := walkL_ok R2 (ox.1.go g2 e2) hw1 hl fun p hp => List.mem_append_left _ hp
        obtain ⟨b', ws, rfl, il2, s3, s4⟩ := walkL_ok R2 oy.1 hw2 hl fun p hp => List.mem_append_right _ hp
        exact ⟨a', b', us, ws, rfl, s1, s3, h3.here R2 hl _ (wlk_zip il il2 s2 s4)⟩
      · cases hw
    | _ => cases ht

/-! ### for -/
omit S in
theorem unlock_ow {σ : L2.St} {i : Nat} {a : Addr} : ∀ {lk : List (Nat × Md)} {ρ : Ro}, OwAt σ (unlockAll lk ρ) i a → OwAt σ ρ i a
  | [], ρ, o => o
  | (j, m) :: lk, ρ, o => by
    have o' : OwAt σ (unlock1 j m (unlockAll lk ρ)) i a := o
    unfold unlock1 at o'
    split at o'
    · rename_i d e
      obtain ⟨m', d', q1, q2⟩ := o'
      rcases getSet q1 with ⟨rfl, z⟩ | ⟨_, z⟩
      · exact unlock_ow ⟨.lck, d, e, q2⟩
      · exact unlock_ow ⟨m', d', z, q2⟩
    · exact unlock_ow o'
omit S in
theorem PostF.unlock {D' : Ends} {lk : List (Nat × Md)} {r : Rf} {K : PySem.W.Frag} {mg : Str → Option Value} (hl : LkOk ρ lk) (h : PostF mg K W σ ρ G H (r.map (unlockAll lk)) D') : PostF mg K W σ (lockAll lk ρ) G H r D' := by
  cases r with
  | stuck => exact h
  | next ρ' => exact fun σ' G' H' g R => let ⟨g2, R2⟩ := unlock_ok hl g R; h σ' G' H' g2 R2
  | brk ρ' => exact fun σ' G' H' g R => let ⟨g2, R2⟩ := unlock_ok hl g R; h σ' G' H' g2 R2
  | cnt ρ' => exact fun σ' G' H' g R => let ⟨g2, R2⟩ := unlock_ok hl g R; h σ' G' H' g2 R2
  | exc c fs ρ' => exact fun cls dd σ' G' H' g R => let ⟨g2, R2⟩ := unlock_ok hl g R; h cls dd σ' G' H' g2 R2
  | ret b ρ' =>
    exact fun v σ' G' H' g R dn nw => by
      obtain ⟨g2, R2⟩ := unlock_ok hl g R
      refine h v σ' G' H' g2 R2 ?_ nw
      cases b with
      | «at» i => exact dn
      | va d f =>
        cases f with
        | false => exact dn
        | true =>
          obtain ⟨a, rfl, c, n⟩ := dn
          exact ⟨a, rfl, c, fun i o => n i (unlock_ow o)⟩
theorem for_ok {asg : D → Ro → Option Ro} {body : Ro → Rf} {J : It} {g : TG} {tb : TS} {D' : Ends} {K : PySem.W.Frag} {mg : Str → Option Value} {ρl : Ro} {ds : List D} {H1 : Hp}
    (hg : ∀ {v : V} {d : D} {σ : L2.St} {ρ ρ' : Ro} {G H : Hp} {Q : L2.St → Hp → Prop}, asg d ρ = some ρ' → Is K G v d → Rep K G H σ ρ → (∀ σ', Go σ ρ G H σ' ρ' G H → Rep K G H σ' ρ' → Q σ' H) → g v σ H Q)
    (hb : ∀ {σ : L2.St} {ρ : Ro} {G H : Hp} {D' : Ends}, Rep K G H σ ρ → PostF mg K W σ ρ G H (body ρ) D' → tb D' σ H)
    (R : Rep K G H1 σ ρl) (wk : WlkOk K σ ρl G H1 J ds) (h : PostF mg K W σ ρl G H1 (loopF asg body ds ρl) D') :
    ∃ W' : Nat → Nat → L2.St → Hp → Prop, (∃ m, W' 0 m σ H1) ∧ ∀ i m σ H, W' i m σ H →
      (J.stop i H ∧ D'.nx σ H) ∨ (J.go i H ∧ ∃ N : L2.St → Hp → Prop, (∀ σ' H', N σ' H' → ∃ m', m' < m ∧ W' (i + 1) m' σ' H') ∧ ∀ x H', J.yld i H x H' → g x σ H' fun σ2 H2 => tb { D' with nx := N, ct := N, bk := D'.nx } σ2 H2) := by
  obtain ⟨Gp, Y, w, hGp, hY⟩ := wk
  refine for_it w (D := D') (fun i σ' H' => ∃ ρ' G', Go σ ρl G H1 σ' ρ' G' H' ∧ Rep K G' H' σ' ρ' ∧ PostF mg K W σ' ρ' G' H' (loopF asg body (ds.drop i) ρ') D') ⟨ρl, G, Go.refl, R, h⟩
    (fun i σ' H' _ ⟨ρ', G', g1, R1, _⟩ => hGp σ' ρ' G' H' g1 R1) (fun i x σ' Hc Hc' hi ⟨ρ', G', g1, R1, h1⟩ y => ?_) fun σ' H' ⟨ρ', G', g1, R1, h1⟩ => ?_
  · obtain ⟨G2, d, e1, i2, g2, R2⟩ := hY i Hc x Hc' y σ' ρ' G' g1 R1
    have e2 : ds.drop i = d :: ds.drop (i + 1) := by
      rw [List.getElem?_eq_some_iff] at e1
      obtain ⟨hh, e1⟩ := e1
      rw [← e1]
      exact List.drop_eq_getElem_cons hh
    rw [e2] at h1
    simp only [loopF] at h1
    cases ea : asg d ρ' with
    | none => rw [ea] at h1; exact h1.elim
    | some ρ2 =>
      rw [ea] at h1
      refine hg ea i2 R2 fun σ2 g3 R3 => hb R3 ?_
      have g12 := (g1.trans g2).trans g3
      have h2 := PostF.later (r := (match body ρ2 with
        | .next ρ2 => loopF asg body (ds.drop (i + 1)) ρ2
        | .cnt ρ2 => loopF asg body (ds.drop (i + 1)) ρ2
        | .brk ρ2 => .next ρ2
        | r => r)) h1 (g2.trans g3)
      cases eb : body ρ2 with
      | stuck => rw [eb] at h2; exact h2
      | next ρ3 =>
        rw [eb] at h2
        exact fun σ3 G3 H3 g4 R4 => ⟨ρ3, G3, g12.trans g4, R4, PostF.later h2 g4⟩
      | cnt ρ3 =>
        rw [eb] at h2
        exact fun σ3 G3 H3 g4 R4 => ⟨ρ3, G3, g12.trans g4, R4, PostF.later h2 g4⟩
      | brk ρ3 =>
        rw [eb] at h2
        exact fun σ3 G3 H3 g4 R4 => h2 σ3 G3 H3 g4 R4
      | ret b ρ3 =>
        rw [eb] at h2
        exact h2
      | exc c fs ρ3 =>
        rw [eb] at h2
        exact h2
  · rw [List.drop_length] at h1
    exact h1 σ' G' H' Go.refl R1
theorem snd_for {tg it : Expr} {body : List Stmt} {p : Pos} {D' : Ends} (O : XOk M N sc k X W) (Fm : Frm X) (R : Rep X.K G H σ ρ) (h : PostF X.mg X.K W σ ρ G H (stepS M N E sc (.For tg it body [] p) ρ) D') : WS X (.For tg it body [] p) D' σ H := by
  simp only [stepS] at h
  split at h
  · rename_i c
    obtain ⟨c1, c2⟩ := Bool.and_eq_true_iff.mp c
    obtain ⟨g, hg, hq⟩ := tg_ok O c1
    refine WS.mk (ps_for O.hp O.calm pi_wi hg pss_wss (fold_set (by simpa using c2))) ?_
    refine snd_iter S O R (h.bind.imp fun w ρ1 G1 H1 _ g1 e1 R1 h1 hl J wk => ?_)
    exact for_ok S (fun ha i R q => hq ha i R fun σ' g R' _ => q σ' g R') (fun R' h' => S.ss O Fm R' h') (lock_rep hl R1) wk (PostF.unlock hl h1)
  · exact h.elim
/-! ### while -/
theorem snd_while {c : Expr} {body : List Stmt} {p : Pos} {D' : Ends} (O : XOk M N sc k X W) (Fm : Frm X) (R : Rep X.K G H σ ρ) (h : PostF X.mg X.K W σ ρ G H (stepS M N E sc (.While c body [] p) ρ) D') : WS X (.While c body [] p) D' σ H := by
  simp only [stepS] at h
  generalize (1000000 : Nat) = kk at h
  refine WS.mk (ps_while O.hp pt_wt pss_wss) ?_
  refine ⟨fun m σ' H' => ∃ ρ' G', Rep X.K G' H' σ' ρ' ∧ PostF X.mg X.K W σ' ρ' G' H' (loopW (E.t sc c) (E.ss sc body) m ρ') D', ⟨kk, ρ, G, R, h⟩, ?_⟩
  rintro m σ' H' ⟨ρ', G', R', h'⟩
  cases m with
  | zero => exact h'.elim
  | succ m =>
    simp only [loopW] at h'
    have h2 : PostF X.mg X.K W σ' ρ' G' H' ((E.t sc c ρ').toF fun b ρ1 => if b then (match E.ss sc body ρ1 with
      | .next ρ2 => loopW (E.t sc c) (E.ss sc body) m ρ2
      | .cnt ρ2 => loopW (E.t sc c) (E.ss sc body) m ρ2
      | .brk ρ2 => .next ρ2
      | r => r) else .next ρ1) D' := by
      cases q : E.t sc c ρ' with
      | stuck => rw [q] at h'; exact h'
      | ok b ρ1 => rw [q] at h'; exact h'
      | exc c' fs ρ1 => rw [q] at h'; exact h'
    refine S.t O R' (h2.bind.imp fun b ρ1 G1 H1 _ g1 e1 R1 h3 => ?_)
    cases b with
    | false =>
      rw [if_neg Bool.false_ne_true] at h3 ⊢
      exact h3 σ' G1 H1 Go.refl R1
    | true =>
      rw [if_pos rfl] at h3 ⊢
      refine ⟨fun σ2 H2 => ∃ ρ2 G2, Rep X.K G2 H2 σ2 ρ2 ∧ PostF X.mg X.K W σ2 ρ2 G2 H2 (loopW (E.t sc c) (E.ss sc body) m ρ2) D', fun σ2 H2 hn => ⟨m, Nat.lt_succ_self m, hn⟩, ?_⟩
      refine S.ss O Fm R1 ?_
      cases eb : E.ss sc body ρ1 with
      | stuck => rw [eb] at h3; exact h3
      | next ρ3 =>
        rw [eb] at h3
        exact fun σ3 G3 H3 g4 R4 => ⟨ρ3, G3, R4, PostF.later h3 g4⟩
      | cnt ρ3 =>
        rw [eb] at h3
        exact fun σ3 G3 H3 g4 R4 => ⟨ρ3, G3, R4, PostF.later h3 g4⟩
      | brk ρ3 =>
        rw [eb] at h3
        exact fun σ3 G3 H3 g4 R4 => h3 σ3 G3 H3 g4 R4
      | ret b ρ3 =>
        rw [eb] at h3
        exact h3
      | exc c fs ρ3 =>
        rw [eb] at h3
        exact h3
end
end VE
end

section
set_option Elab.async false
set_option linter.all false
set_option maxRecDepth 100000
set_option maxHeartbeats 1000000
/-! VE10: list comprehensions. -/
namespace VE
open PySem PySem.Spec L2

/-! ### wiped slots -/
section
variable {K : PySem.W.Frag} {G H G' H' : Hp} {σ σ' : L2.St} {ρ ρ' old : Ro} {idx : List Nat}
theorem wipe_out' {j : Nat} : ∀ {vs : List Nat}, j ∉ vs → (wipe σ vs)[j]? = σ[j]?
  | [], _ => rfl
  | v :: vs, h => by
    have h1 : j ≠ v := fun z => h (by rw [z]; exact List.mem_cons_self)
    have h2 : j ∉ vs := fun z => h (List.mem_cons_of_mem _ z)
    show ((wipe σ vs).set v none)[j]? = _
    rw [List.getElem?_set_ne (Ne.symm h1), wipe_out' h2]
theorem wipe_in {j : Nat} : ∀ {vs : List Nat}, j ∈ vs → j < σ.length → (wipe σ vs)[j]? = some none
  | v :: vs, h, hl => by
    show ((wipe σ vs).set v none)[j]? = _
    by_cases e : j = v
    · subst e
      rw [List.getElem?_set_self (by rw [wipe_length]; exact hl)]
    · rw [List.getElem?_set_ne (Ne.symm e)]
      exact wipe_in ((List.mem_cons.mp h).resolve_left e) hl
theorem wipeR_len : ∀ vs : List Nat, (wipeR vs ρ).length = ρ.length
  | [] => rfl
  | v :: vs => by
    show ((wipeR vs ρ).set v .un).length = _
    rw [List.length_set, wipeR_len vs]
theorem wipeR_out {j : Nat} : ∀ {vs : List Nat}, j ∉ vs → (wipeR vs ρ)[j]? = ρ[j]?
  | [], _ => rfl
  | v :: vs, h => by
    have h1 : j ≠ v := fun z => h (by rw [z]; exact List.mem_cons_self)
    have h2 : j ∉ vs := fun z => h (List.mem_cons_of_mem _ z)
    show ((wipeR vs ρ).set v .un)[j]? = _
    rw [List.getElem?_set_ne (Ne.symm h1), wipeR_out h2]
theorem wipeR_in {j : Nat} : ∀ {vs : List Nat}, j ∈ vs → j < ρ.length → (wipeR vs ρ)[j]? = some .un
  | v :: vs, h, hl => by
    show ((wipeR vs ρ).set v .un)[j]? = _
    by_cases e : j = v
    · subst e
      rw [List.getElem?_set_self (by rw [wipeR_len]; exact hl)]
    · rw [List.getElem?_set_ne (Ne.symm e)]
      exact wipeR_in ((List.mem_cons.mp h).resolve_left e) hl
theorem unwipe_len : ∀ vs : List Nat, (unwipe old vs ρ).length = ρ.length
  | [] => rfl
  | v :: vs => by
    show ((unwipe old vs ρ).set v _).length = _
    rw [List.length_set, unwipe_len vs]
theorem unwipe_out {j : Nat} : ∀ {vs : List Nat}, j ∉ vs → (unwipe old vs ρ)[j]? = ρ[j]?
  | [], _ => rfl
  | v :: vs, h => by
    have h1 : j ≠ v := fun z => h (by rw [z]; exact List.mem_cons_self)
    have h2 : j ∉ vs := fun z => h (List.mem_cons_of_mem _ z)
    show ((unwipe old vs ρ).set v _)[j]? = _
    rw [List.getElem?_set_ne (Ne.symm h1), unwipe_out h2]
theorem unwipe_in {j : Nat} {s : Sl} (hs : old[j]? = some s) : ∀ {vs : List Nat}, j ∈ vs → j < ρ.length → (unwipe old vs ρ)[j]? = some s
  | v :: vs, h, hl => by
    show ((unwipe old vs ρ).set v (old.getD v .un))[j]? = _
    by_cases e : j = v
    · subst e
      rw [List.getElem?_set_self (by rw [unwipe_len]; exact hl), List.getD_eq_getElem?_getD, hs]
      rfl
    · rw [List.getElem?_set_ne (Ne.symm e)]
      exact unwipe_in hs ((List.mem_cons.mp h).resolve_left e) hl
/-- flat slots at these places -/
def FlatAt (ρ : Ro) (idx : List Nat) : Prop := ∀ i ∈ idx, flatSl ρ[i]? = true
theorem FlatAt.get {j : Nat} {s : Sl} (f : FlatAt ρ idx) (h : j ∈ idx) (e : ρ[j]? = some s) : pinned s = false ∧ isOw s = false := by
  have z := f j h
  rw [e] at z
  cases s <;> first | exact ⟨rfl, rfl⟩ | cases z
theorem lt_get {α : Type} {l : List α} {j : Nat} {a : α} (h : l[j]? = some a) : j < l.length := by
  rcases Nat.lt_or_ge j l.length with q | q
  · exact q
  · rw [List.getElem?_eq_none_iff.mpr q] at h
    cases h
theorem wipe_ok (R : Rep K G H σ ρ) (f : FlatAt ρ idx) : Go σ ρ G H (wipe σ idx) (wipeR idx ρ) G H ∧ Rep K G H (wipe σ idx) (wipeR idx ρ) := by
  have get : ∀ {j : Nat} {s : Sl}, (wipeR idx ρ)[j]? = some s → (j ∈ idx ∧ s = .un ∧ (wipe σ idx)[j]? = some none) ∨ (j ∉ idx ∧ ρ[j]? = some s ∧ (wipe σ idx)[j]? = σ[j]?) := fun {j s} e => by
    have hl : j < ρ.length := by
      have := lt_get e
      rw [wipeR_len] at this
      exact this
    by_cases h : j ∈ idx
    · rw [wipeR_in h hl] at e
      exact .inl ⟨h, (Option.some.inj e).symm, wipe_in h (by rw [R.len]; exact hl)⟩
    · rw [wipeR_out h] at e
      exact .inr ⟨h, e, wipe_out' h⟩
  have owAt : ∀ j a, OwAt (wipe σ idx) (wipeR idx ρ) j a → OwAt σ ρ j a := fun j a o => by
    obtain ⟨m, d, e1, e2⟩ := o
    rcases get e1 with ⟨_, z, _⟩ | ⟨_, z1, z2⟩
    · cases z
    · rw [z2] at e2
      exact ⟨m, d, z1, e2⟩
  refine ⟨⟨Same.refl _, fun _ _ e _ => e, fun _ _ _ g _ => g, fun a mo => ?_, fun j s e p => ?_, fun _ e => e⟩, ⟨R.ex, by rw [wipe_length, wipeR_len, R.len], fun j s e => ?_, fun i j a o1 o2 => R.dj i j a (owAt i a o1) (owAt j a o2)⟩⟩
  · obtain ⟨j, m, d, n, e1, e2⟩ := mo
    rcases get e1 with ⟨_, z, _⟩ | ⟨_, z1, z2⟩
    · cases z
    · rw [z2] at e2
      exact .inl ⟨j, m, d, n, z1, e2⟩
  · have hj : j ∉ idx := fun h => by
      have := (f.get h e).1
      rw [p] at this
      cases this
    exact ⟨wipe_out' hj, s, by rw [wipeR_out hj]; exact e, PinTo.refl s⟩
  · rcases get e with ⟨_, z, z2⟩ | ⟨_, z1, z2⟩
    · subst z
      exact z2
    · rw [z2]
      exact R.sl j s z1
theorem unwipe_ok (R0 : Rep K G H σ ρ) (f : FlatAt ρ idx) (g : Go (wipe σ idx) (wipeR idx ρ) G H (wipe σ idx) ρ' G' H') (R : Rep K G' H' (wipe σ idx) ρ') (ev : Evo (wipeR idx ρ) ρ') :
    Go σ ρ G H σ (unwipe ρ idx ρ') G' H' ∧ Rep K G' H' σ (unwipe ρ idx ρ') ∧ Evo ρ (unwipe ρ idx ρ') := by
  have len : ρ'.length = ρ.length := by rw [ev.len, wipeR_len]
  have get : ∀ {j : Nat} {s : Sl}, (unwipe ρ idx ρ')[j]? = some s → (j ∈ idx ∧ ρ[j]? = some s) ∨ (j ∉ idx ∧ ρ'[j]? = some s ∧ (wipe σ idx)[j]? = σ[j]?) := fun {j s} e => by
    have hl : j < ρ'.length := by
      have := lt_get e
      rw [unwipe_len] at this
      exact this
    by_cases h : j ∈ idx
    · obtain ⟨s0, e0⟩ : ∃ s0, ρ[j]? = some s0 := ⟨_, List.getElem?_eq_getElem (by omega)⟩
      rw [unwipe_in e0 h hl] at e
      exact .inl ⟨h, by rw [e0, e]⟩
    · rw [unwipe_out h] at e
      exact .inr ⟨h, e, wipe_out' h⟩
  have owAt : ∀ j a, OwAt σ (unwipe ρ idx ρ') j a → OwAt (wipe σ idx) ρ' j a := fun j a o => by
    obtain ⟨m, d, e1, e2⟩ := o
    rcases get e1 with ⟨h, z⟩ | ⟨_, z1, z2⟩
    · have := (f.get h z).2
      cases this
    · rw [← z2] at e2
      exact ⟨m, d, z1, e2⟩
  have moS : ∀ a, Mo (wipe σ idx) (wipeR idx ρ) a → Mo σ ρ a := fun a mo => by
    rcases (wipe_ok R0 f).1.own a mo with z | z
    · exact z
    · obtain ⟨i, o⟩ := mo_ow mo
      exact absurd z (by
        obtain ⟨m, d, e1, e2⟩ := o
        obtain ⟨a', q1, _, xs, _, _, q4, _⟩ := (wipe_ok R0 f).2.sl i _ e1
        rw [e2] at q1
        cases q1
        rw [q4]
        exact fun z => by cases z)
  refine ⟨⟨g.g, fun a o e n => g.keep a o e fun mo => n (moS a mo), fun a o e z n => g.fr a o e z fun mo => n (moS a mo), fun a mo => ?_, fun j s e p => ?_, g.there⟩, ⟨R.ex, by rw [unwipe_len, len]; exact R0.len, fun j s e => ?_, fun i j a o1 o2 => R.dj i j a (owAt i a o1) (owAt j a o2)⟩, ⟨by rw [unwipe_len, len], fun j m d e => ?_, fun j s e n => ?_⟩⟩
  · obtain ⟨j, m, d, n, e1, e2⟩ := mo
    rcases get e1 with ⟨h, z⟩ | ⟨_, z1, z2⟩
    · have := (f.get h z).2
      cases this
    · rw [← z2] at e2
      exact (g.own a ⟨j, m, d, n, z1, e2⟩).imp (moS a) id
  · have hj : j ∉ idx := fun h => by
      have := (f.get h e).1
      rw [p] at this
      cases this
    obtain ⟨_, s', z2, z3⟩ := g.pin j s (by rw [wipeR_out hj]; exact e) p
    exact ⟨rfl, s', by rw [unwipe_out hj]; exact z2, z3⟩
  · rcases get e with ⟨h, z⟩ | ⟨_, z1, z2⟩
    · exact (R0.sl j s z).later g.g fun m a d es ex c => by
        have := (f.get h z).2
        rw [es] at this
        cases this
    · rw [← z2]
      exact R.sl j s z1
  · rcases get e with ⟨h, z⟩ | ⟨hj, z1, z2⟩
    · have := (f.get h z).2
      cases this
    · obtain ⟨d', q⟩ := ev.ow j m d z1
      rw [wipeR_out hj] at q
      exact ⟨d', q⟩
  · by_cases h : j ∈ idx
    · exact unwipe_in e h (by rw [len]; exact lt_get e)
    · rw [unwipe_out h]
      exact ev.stay j s (by rw [wipeR_out h]; exact e) n
/-- the block's names again empty, behind a turn -/
theorem turn_end {σ2 : L2.St} {ρ1 ρ2 : Ro} (o : OutSame idx (wipe σ idx) σ2 ρ ρ1) (ev : Evo ρ1 ρ2) (hw : ∀ i ∈ idx, i < ρ.length → ρ[i]? = some .un) (hf : FlatAt ρ1 idx) (hlen : σ.length = ρ.length) :
    wipe σ2 idx = wipe σ idx ∧ Evo ρ (wipeR idx ρ2) ∧ FlatAt ρ2 idx := by
  refine ⟨List.ext_getElem? fun j => ?_, ⟨by rw [wipeR_len, ev.len, o.2.1], fun j m d e => ?_, fun j s e n => ?_⟩, fun i hi => ?_⟩
  · by_cases h : j ∈ idx
    · rcases Nat.lt_or_ge j σ.length with q | q
      · rw [wipe_in h q, wipe_in h (by rw [o.1, wipe_length]; exact q)]
      · rw [List.getElem?_eq_none_iff.mpr (show (wipe σ2 idx).length ≤ j by rw [wipe_length, o.1, wipe_length]; exact q), List.getElem?_eq_none_iff.mpr (show (wipe σ idx).length ≤ j by rw [wipe_length]; exact q)]
    · rw [wipe_out' h, (o.2.2 j h).1]
  · by_cases h : j ∈ idx
    · have hl := lt_get e
      rw [wipeR_len] at hl
      rw [wipeR_in h hl] at e
      cases e
    · rw [wipeR_out h] at e
      obtain ⟨d', q⟩ := ev.ow j m d e
      exact ⟨d', (o.2.2 j h).2 ▸ q⟩
  · by_cases h : j ∈ idx
    · have z := hw j h (lt_get e)
      rw [z] at e
      cases e
      exact wipeR_in h (by rw [ev.len, o.2.1]; exact lt_get z)
    · rw [wipeR_out h]
      exact ev.stay j s (by rw [(o.2.2 j h).2]; exact e) n
  · have z := hf i hi
    cases q : ρ1[i]? with
    | none => rw [q] at z; cases z
    | some s =>
      have := (hf.get hi q).2
      rw [ev.stay i s q this]
      rw [q] at z
      exact z
end
end VE
end

section
set_option Elab.async false
set_option linter.all false
set_option maxRecDepth 100000
set_option maxHeartbeats 1000000
/-! VE11: list comprehensions are sound. -/
namespace VE
open PySem PySem.Spec L2

theorem rel_relS {sc : Scope} (x : Str) : ∀ names : List (Str × NameKind),
    (names.map fun (n, k) => if (k == NameKind.free && sc.kind == .function && sc.names.lookup n == some .cell) then (n, NameKind.cell) else (n, k)).lookup x = names.lookup x ∨
    (names.lookup x = some .free ∧ (names.map fun (n, k) => if (k == NameKind.free && sc.kind == .function && sc.names.lookup n == some .cell) then (n, NameKind.cell) else (n, k)).lookup x = some .cell)
  | [] => .inl rfl
  | (n, k) :: r => by
    have ih := rel_relS (sc := sc) x r
    show List.lookup x ((if (k == NameKind.free && sc.kind == .function && sc.names.lookup n == some .cell) = true then (n, NameKind.cell) else (n, k)) :: _) = _ ∨ (_ ∧ List.lookup x ((if (k == NameKind.free && sc.kind == .function && sc.names.lookup n == some .cell) = true then (n, NameKind.cell) else (n, k)) :: _) = _)
    cases hx : x == n with
    | true =>
      by_cases hc : (k == NameKind.free && sc.kind == .function && sc.names.lookup n == some .cell) = true
      · rw [if_pos hc]
        simp only [Bool.and_eq_true, beq_iff_eq] at hc
        refine .inr ⟨?_, ?_⟩
        · simp only [List.lookup_cons, hx, hc.1.1]
        · simp only [List.lookup_cons, hx]
      · rw [if_neg hc]
        refine .inl ?_
        simp only [List.lookup_cons, hx]
    | false =>
      by_cases hc : (k == NameKind.free && sc.kind == .function && sc.names.lookup n == some .cell) = true
      · rw [if_pos hc]
        simp only [List.lookup_cons, hx]
        exact ih
      · rw [if_neg hc]
        simp only [List.lookup_cons, hx]
        exact ih
section
variable {M : Mdl} {N : List Str} {E : Ev} {sc scope : Scope} {k : Nat} {X : Cx} {W : WX} {own : List (Str × Nat)} {idx : List Nat}
theorem blk_ok (O : XOk M N sc k X W) (hk : scope.kind = .function) (s : Shared) (H : Hp) (C : Addr) (cl : List (Str × Addr)) (fp : List Addr) :
    XOk M N scope k (X.blk s H scope (compEnvC scope cl C X.env) fp) (fun _ _ _ _ => False) where
  nm := O.nm
  nd := O.nd
  rel := fun x => rel_relS x scope.names
  fn := fun x e => by
    show (scope.names.lookup x == some .cell) = true
    rw [e]
    rfl
  kind := hk
  calm := O.calm
  room := O.room
  tk := fun u s' ⟨_, _, _, _, _, _, _, _, _, _, _, _, _, _, _, _, w⟩ => w
  hp := PassesOwn.never
  md := O.md
theorem blk_free (O : XOk M N sc k X W) (ok : BlkOk N sc scope own) : BlkOk X.N X.env.scope scope own := by
  rw [O.nm]
  refine ⟨ok.kind, ok.uniq, ok.ix, fun y hy e => ?_, ok.own⟩
  rcases O.rel y.1 with q | ⟨_, q⟩
  · rw [q]
    exact ok.free y hy e
  · exact .inl q
/-! ### the block's names -/
theorem mapM_len {α β : Type} {f : α → Option β} : ∀ {xs : List α} {ys : List β}, xs.mapM f = some ys → ys.length = xs.length
  | [], ys, h => by
    rw [List.mapM_nil] at h
    cases h
    rfl
  | x :: xs, ys, h => by
    rw [List.mapM_cons] at h
    obtain ⟨y, h1, h⟩ := bind_some' h
    obtain ⟨zs, h2, h⟩ := bind_some' h
    cases h
    rw [List.length_cons, List.length_cons, mapM_len h2]
theorem mapM_mem {α β : Type} {f : α → Option β} {x : α} {y : β} : ∀ {xs : List α} {ys : List β}, xs.mapM f = some ys → x ∈ xs → f x = some y → y ∈ ys
  | z :: xs, ys, h, hx, e => by
    rw [List.mapM_cons] at h
    obtain ⟨y', h1, h⟩ := bind_some' h
    obtain ⟨zs, h2, h⟩ := bind_some' h
    cases h
    rcases List.mem_cons.mp hx with rfl | hx
    · rw [e] at h1
      cases h1
      exact List.mem_cons_self
    · exact List.mem_cons_of_mem _ (mapM_mem h2 hx e)
theorem zip_snd {α β : Type} : ∀ {xs : List α} {ys : List β}, ys.length = xs.length → (xs.zip ys).map (·.2) = ys
  | [], [], _ => rfl
  | _ :: _, [], h => by cases h
  | [], _ :: _, h => by cases h
  | x :: xs, y :: ys, h => by
    show y :: (xs.zip ys).map (·.2) = _
    rw [zip_snd (Nat.succ.inj h)]
theorem own_mem {x : Str} (h : locK scope x = true) (hx : (ixN? N x).isSome = true) : x ∈ ownOf N scope := by
  unfold locK at h
  unfold ownOf
  refine List.mem_filter.mpr ⟨?_, hx⟩
  split at h
  · rename_i q
    exact List.mem_filterMap.mpr ⟨_, PySem.mem_of_lookup q, rfl⟩
  · rename_i q
    exact List.mem_filterMap.mpr ⟨_, PySem.mem_of_lookup q, rfl⟩
  · cases h
theorem nm_ix (hm : (ownOf N scope).mapM (ixN? N) = some idx) {e : Expr} (h : nmOk N scope e = true) : ∀ j ∈ nmIx N e, j ∈ idx := by
  cases e with
  | Name x p =>
    obtain ⟨h1, h2⟩ := Bool.and_eq_true_iff.mp (show ((ixN? N x).isSome && locK scope x) = true from h)
    intro j hj
    have hj' : ixN? N x = some j := by simpa [nmIx] using hj
    exact mapM_mem hm (own_mem h2 h1) hj'
  | _ => cases h
theorem tg_ix (hm : (ownOf N scope).mapM (ixN? N) = some idx) {tg : Expr} (h : tgOk N scope tg = true) : ∀ j ∈ tgIx N tg, j ∈ idx := by
  cases tg with
  | Name x p => exact nm_ix hm (e := .Name x p) h
  | Tuple es a p =>
    intro j hj
    obtain ⟨e, he, hj⟩ := List.mem_flatMap.mp (show j ∈ es.flatMap (nmIx N) from hj)
    exact nm_ix hm (List.all_eq_true.mp (show es.all (nmOk N scope) = true from h) e he) j hj
  | _ => cases h
/-! ### a target leaves flat slots flat -/
theorem flat_store {x : Str} {d : D} {ρ ρ' : Ro} (h : store N sc x (.fz d) ρ = some ρ') (f : FlatAt ρ idx) : FlatAt ρ' idx := by
  obtain ⟨i, _, _, _, rfl⟩ := store_inv h
  intro j hj
  by_cases e : j = i
  · subst e
    rw [List.getElem?_set_self']
    have := f j hj
    cases q : ρ[j]? with
    | none => rw [q] at this; cases this
    | some s => rfl
  · rw [getSet_ne e]
    exact f j hj
theorem flat_names : ∀ {es : List Expr} {ds : List D} {ρ ρ' : Ro}, asgNames N sc es ds ρ = some ρ' → FlatAt ρ idx → FlatAt ρ' idx
  | [], [], _, _, h, f => by cases h; exact f
  | [], _ :: _, _, _, h, _ => by cases h
  | e :: es, [], _, _, h, _ => by cases e <;> cases h
  | e :: es, d :: ds, ρ, ρ', h, f => by
    cases e with
    | Name x p =>
      obtain ⟨ρ1, e1, e2⟩ := bind_some' (show ((store N sc x (.fz d) ρ).bind fun ρ1 => asgNames N sc es ds ρ1) = some ρ' from h)
      exact flat_names e2 (flat_store e1 f)
    | _ => cases h
theorem flat_asg {tg : Expr} {d : D} {ρ ρ' : Ro} (h : asgT N sc tg d ρ = some ρ') (f : FlatAt ρ idx) : FlatAt ρ' idx := by
  cases tg with
  | Name x p => exact flat_store h f
  | Tuple es j p =>
    cases d with
    | tup ds => exact flat_names (show asgNames N sc es ds ρ = some ρ' from h) f
    | _ => cases h
  | _ => cases h

/-! ### the tests -/
theorem test_ok {E : Ev} (S : Snd M N E) {ifs : List Expr} {σ : L2.St} {ρ ρ' : Ro} {G H : Hp} {b : Bool} {Q : Bool → Hp → Prop} (O : XOk M N scope k X W) (R : Rep X.K G H σ ρ) (h : testS E scope ifs ρ = .ok b ρ')
    (q : ∀ G' H', Go σ ρ G H σ ρ' G' H' → Evo ρ ρ' → Rep X.K G' H' σ ρ' → Q b H') : ∃ t, PTs X ifs t ∧ t σ H Q := by
  match ifs, h with
  | [], h =>
    cases h
    exact ⟨_, pts_nil, q G H Go.refl (Evo.refl _) R⟩
  | [c], h =>
    refine ⟨_, pts_one pt_wt, S.t O R ?_⟩
    rw [show E.t scope c ρ = .ok b ρ' from h]
    exact q
  | _ :: _ :: _, h => cases h
/-! ### the new list, from turn to turn -/
section
variable {K : PySem.W.Frag} {G H G' H' G1 H1 : Hp} {σ σ' : L2.St} {ρ ρ' : Ro} {D : Addr} {o : HO}
theorem go_upd (g : Go σ ρ G1 H1 σ' ρ' G' H') (hD : H1 D = none) : Go σ ρ G1 H1 σ' ρ' G' (upd H' D o) :=
  ⟨g.g, fun a u e n => by rw [upd_ne (ne_of_none e hD)]; exact g.keep a u e n, g.fr, g.own, g.pin, fun a e => g.there a (upd_none' e (g := g))⟩
where upd_none' {a : Addr} (e : upd H' D o a = none) (g : Go σ ρ G1 H1 σ' ρ' G' H') : H' a = none := upd_none e
theorem rep_upd (R : Rep K G' H' σ ρ) (hG : G' D = none) (hn : ∀ i, ¬ OwAt σ ρ i D) : Rep K G' (upd H' D o) σ ρ := by
  refine ⟨fun a u e => ?_, R.len, fun i s e => (R.sl i s e).later (Same.refl _) fun m a d es ex ⟨c1, xs, ds, c2, c3, c4⟩ => ⟨c1, xs, ds, c2, ?_, c4⟩, R.dj⟩
  · rw [upd_ne (ne_of_none e hG)]
    exact R.ex a u e
  · rw [upd_ne fun z => hn i ⟨m, d, by rw [← es]; exact e, by rw [← z]; exact ex⟩]
    exact c3
/-- the new list stays as it is meanwhile -/
structure Keep (K : PySem.W.Frag) (G H : Hp) (σ : L2.St) (ρ : Ro) (D : Addr) (vs : List V) (ds : List VE.D) : Prop where
  h : H D = some (.lst vs)
  g : G D = none
  n : ∀ i, ¬ OwAt σ ρ i D
  i : IsL K G vs ds
theorem Keep.go {vs : List V} {ds : List VE.D} (kp : Keep K G H σ ρ D vs ds) (g : Go σ ρ G H σ' ρ' G' H') : H' D = some (.lst vs) ∧ G' D = none ∧ IsL K G' vs ds := by
  have nm : ¬ Mo σ ρ D := fun m => let ⟨i, q⟩ := mo_ow m; kp.n i q
  exact ⟨g.keep D _ kp.h nm, g.fr D _ kp.h kp.g nm, kp.i.mono g.g⟩
end

section
/-- the readings of a block's parts, whatever the block's place -/
def gB (X : Cx) (scope : Scope) (tg : Expr) : TG := fun v σ H Q => ∀ s H0 C cl fp, ∃ g, PG (X.blk s H0 scope (compEnvC scope cl C X.env) fp) tg g ∧ g v σ H Q
def tB (X : Cx) (scope : Scope) (ifs : List Expr) : TT := fun σ H Q => ∀ s H0 C cl fp, ∃ t, PTs (X.blk s H0 scope (compEnvC scope cl C X.env) fp) ifs t ∧ t σ H Q
def eB (X : Cx) (scope : Scope) (elt : Expr) : TE := fun σ H Q => ∀ s H0 C cl fp, WE (X.blk s H0 scope (compEnvC scope cl C X.env) fp) elt σ H Q
variable {M : Mdl} {N : List Str} {E : Ev} {sc scope : Scope} {k : Nat} {X : Cx} {W : WX} {σ : L2.St} {ρ : Ro} {G H : Hp} {Q : VK} (S : Snd M N E)
include S
theorem comp_tlc {elt tg it : Expr} {ifs : List Expr} (O : XOk M N sc k X W) (R : Rep X.K G H σ ρ) (h : Post X.mg X.K W σ ρ G H (compS M N E sc elt tg it ifs scope ρ) (OutC X.K σ H Q)) :
    ∃ wi g tt te own, PI X tg it wi ∧ BlkOk X.N X.env.scope scope own ∧ (∀ s H C cl fp, PG (X.blk s H scope (compEnvC scope cl C X.env) fp) tg g) ∧ (∀ s H C cl fp, PTs (X.blk s H scope (compEnvC scope cl C X.env) fp) ifs tt) ∧
      (∀ s H C cl fp, PE (X.blk s H scope (compEnvC scope cl C X.env) fp) elt te) ∧ (∀ x, foldedSetIterable it X.env x = pure x) ∧ tLc wi g tt te (own.map (·.2)) σ H Q := by
  unfold compS at h
  split at h
  · exact h.elim
  · rename_i idx hm
    split at h
    · rename_i c
      simp only [Bool.and_eq_true, decide_eq_true_eq] at c
      obtain ⟨⟨⟨c1, c2⟩, c3⟩, c4⟩ := c
      have ok := blkOk_by c1
      have OB := fun s H C cl fp => blk_ok (scope := scope) O ok.kind s H C cl fp
      refine ⟨WI X tg it, gB X scope tg, tB X scope ifs,
        eB X scope elt, (ownOf N scope).zip idx, pi_wi, blk_free O ok, ?_, ?_, ?_, fold_set (by simpa using c3), ?_⟩
      · intro s H0 C cl fp
        exact ⟨fun pins s' σ' H' v u Q' I r hq => let ⟨g, hg, q⟩ := hq s H0 C cl fp; hg.run pins s' σ' H' v u Q' I r q⟩
      · intro s H0 C cl fp
        exact ⟨fun pins s' σ' H' Q' I hq => let ⟨t, ht, q⟩ := hq s H0 C cl fp; ht.run pins s' σ' H' Q' I q⟩
      · intro s H0 C cl fp
        exact ⟨fun pins s' σ' H' Q' I hq => pe_we.run pins s' σ' H' Q' I (hq s H0 C cl fp)⟩
      · rw [zip_snd (mapM_len hm)]
        refine snd_iter S O R (h.bind.imp fun w ρ1 G1 H1 _ g1 e1 R1 h1 hl J wk => ?_)
        split at h1
        · rename_i cf
          have Rl := lock_rep hl R1
          have f : FlatAt (lockAll w.2 ρ1) idx := fun i hi => List.all_eq_true.mp cf i hi
          split at h1
          · rename_i ds2 ρ2 eloop
            obtain ⟨gw, Rw⟩ := wipe_ok Rl f
            obtain ⟨Gp, Y, wlk, hGp, hY⟩ := wk
            intro Dl hD
            refine lc_it (g := gB X scope tg) (tt := tB X scope ifs) (te := eB X scope elt) (vs := idx) (σ := σ) (D := Dl) (Qd := fun H => Q (.ref Dl) H) wlk (fun i Hc => ∃ ρ' G' acc accV, Go (wipe σ idx) (wipeR idx (lockAll w.2 ρ1)) G1 H1 (wipe σ idx) ρ' G' Hc ∧ Evo (wipeR idx (lockAll w.2 ρ1)) ρ' ∧ Rep X.K G' Hc (wipe σ idx) ρ' ∧ (∀ i ∈ idx, i < ρ'.length → ρ'[i]? = some .un) ∧
              Keep X.K G' Hc (wipe σ idx) ρ' Dl accV acc ∧ loopC idx (asgT N scope tg) (testS E scope ifs) (E.e scope elt) (w.1.drop i) acc ρ' = .ok ds2 ρ2) ?_ ?_ ?_ ?_
            · exact ⟨_, G1, [], [], go_new hD, Evo.refl _, rep_new Rw hD, fun i hi hlt => wipeR_in hi (by rw [wipeR_len] at hlt; exact hlt), ⟨upd_same, Rl.gnone hD, fun i => new_un Rw hD i, .nil⟩, eloop⟩
            · exact fun i Hc _ ⟨ρ', G', acc, accV, g, ev, R', _, _, _⟩ => hGp _ _ _ _ (gw.trans g) R'
            · rintro i x Hc Hc' hi ⟨ρ', G', acc, accV, g, ev, R', hun, kp, el⟩ y
              obtain ⟨G2, d, e1, is, g2, R2⟩ := hY i Hc x Hc' y _ ρ' G' (gw.trans g) R'
              have e2 : w.1.drop i = d :: w.1.drop (i + 1) := by
                rw [List.getElem?_eq_some_iff] at e1
                obtain ⟨hh, e1⟩ := e1
                rw [← e1]
                exact List.drop_eq_getElem_cons hh
              rw [e2] at el
              simp only [loopC] at el
              cases ea : asgT N scope tg d ρ' with
              | none => rw [ea] at el; cases el
              | some ρ3 =>
                rw [ea] at el
                simp only at el
                intro s H0 C cl fp
                obtain ⟨gt, hg, hq⟩ := tg_ok (OB s H0 C cl fp) c2
                refine ⟨gt, hg, hq ea is R2 fun σ2 g3 R3 o => ?_⟩
                have o' : OutSame idx (wipe σ idx) σ2 ρ' ρ3 := ⟨o.1, o.2.1, fun j hj => o.2.2 j fun z => hj (tg_ix hm c2 j z)⟩
                have flen : σ.length = ρ'.length := by rw [← R'.len, wipe_length]
                have F0 : FlatAt ρ' idx := fun j hj => by
                  rcases Nat.lt_or_ge j ρ'.length with q | q
                  · rw [hun j hj q]; rfl
                  · have l3 := hun j hj
                    have := f j hj
                    have l4 : j ≥ (lockAll w.2 ρ1).length := by
                      have := ev.len
                      rw [wipeR_len] at this
                      omega
                    rw [List.getElem?_eq_none_iff.mpr l4] at this
                    cases this
                have F3 := flat_asg ea F0
                refine ⟨(turn_end o' (Evo.refl ρ3) hun F3 flen).1, ?_⟩
                obtain ⟨k1, k2, k3⟩ := kp.go g2
                have kp3 : Keep X.K G2 Hc' σ2 ρ3 Dl accV acc := ⟨k1, k2, fun i ow => by
                  obtain ⟨m, d', q1, q2⟩ := ow
                  by_cases hi : i ∈ idx
                  · have := (F3.get hi q1).2
                    cases this
                  · obtain ⟨z1, z2⟩ := o'.2.2 i hi
                    exact kp.n i ⟨m, d', by rw [← z2]; exact q1, by rw [← z1]; exact q2⟩, k3⟩
                -- a turn's end
                have fin : ∀ {ρ4 : Ro} {G4 H4 : Hp}, Go σ2 ρ3 G2 Hc' σ2 ρ4 G4 H4 → Evo ρ3 ρ4 → Rep X.K G4 H4 σ2 ρ4 → Go (wipe σ idx) (wipeR idx (lockAll w.2 ρ1)) G1 H1 (wipe σ idx) (wipeR idx ρ4) G4 H4 ∧ Evo (wipeR idx (lockAll w.2 ρ1)) (wipeR idx ρ4) ∧ Rep X.K G4 H4 (wipe σ idx) (wipeR idx ρ4) ∧ (∀ i ∈ idx, i < (wipeR idx ρ4).length → (wipeR idx ρ4)[i]? = some .un) ∧ (∀ i, ¬ OwAt (wipe σ idx) (wipeR idx ρ4) i Dl) := fun {ρ4 G4 H4} g4 e4 R4 => by
                  obtain ⟨t1, t2, t3⟩ := turn_end o' e4 hun F3 flen
                  obtain ⟨gw4, Rw4⟩ := wipe_ok R4 t3
                  rw [t1] at gw4 Rw4
                  exact ⟨(((g.trans g2).trans g3).trans g4).trans gw4, ev.trans t2, Rw4, fun i hi hlt => wipeR_in hi (by rw [wipeR_len] at hlt; exact hlt), fun i ow => kp.n i (ow.evo t2)⟩
                intro s H0 C cl fp
                cases et : testS E scope ifs ρ3 with
                | stuck => rw [et] at el; cases el
                | exc c' fs' ρ4 => rw [et] at el; cases el
                | ok b ρ4 =>
                  rw [et] at el
                  refine test_ok S (OB s H0 C cl fp) R3 et fun G4 H4 g4 e4 R4 => ?_
                  obtain ⟨k4, k5, k6⟩ := kp3.go g4
                  cases b with
                  | false =>
                    simp only [Bool.false_eq_true, if_false] at el ⊢
                    obtain ⟨f1, f2, f3, f4, f5⟩ := fin g4 e4 R4
                    exact ⟨_, G4, acc, accV, f1, f2, f3, f4, ⟨k4, k5, f5, k6⟩, el⟩
                  | true =>
                    simp only [if_true] at el ⊢
                    intro s H0 C cl fp
                    cases ee : E.e scope elt ρ4 with
                    | stuck => rw [ee] at el; cases el
                    | exc c' fs' ρ5 => rw [ee] at el; cases el
                    | ok v ρ5 =>
                      rw [ee] at el
                      simp only at el
                      cases ew : whole v ρ5 with
                      | stuck => rw [ew] at el; cases el
                      | exc c' fs' ρ6 => rw [ew] at el; cases el
                      | ok d6 ρ6 =>
                        rw [ew] at el
                        simp only at el
                        split at el
                        · rename_i sz
                          refine S.e (OB s H0 C cl fp) R4 ?_
                          rw [ee]
                          intro G5 H5 g5 e5 R5 vv ov
                          obtain ⟨G6, g6, e6, R6, i6⟩ := whole_of R5 g5 e5 ov ew
                          have kp4 : Keep X.K G4 H4 σ2 ρ4 Dl accV acc := ⟨k4, k5, fun i ow => kp3.n i (ow.evo e4), k6⟩
                          obtain ⟨k7, k8, k9⟩ := kp4.go g6
                          obtain ⟨f1, f2, f3, f4, f5⟩ := fin (g4.trans g6) (e4.trans e6) R6
                          have hlen : accV.length < sizeLine := by
                            rw [k9.length]
                            exact of_decide_eq_true sz
                          exact ⟨accV, k7, hlen, _, G6, acc ++ [d6], accV ++ [vv], go_upd f1 hD, f2, rep_upd f3 k8 f5, f4, ⟨upd_same, k8, f5, k9.append (.one i6)⟩, el⟩
                        · cases el
            · rintro Hc ⟨ρ', G', acc, accV, g, ev, R', hun, kp, el⟩
              rw [List.drop_length] at el
              cases el
              obtain ⟨u1, u2, u3⟩ := unwipe_ok Rl f g R' ev
              obtain ⟨v1, v2⟩ := unlock_ok hl u1 u2
              have v3 := unlock_evo hl u1 u2 u3
              refine h1 G' Hc v1 v3 v2 (.ref Dl) ⟨⟨Dl, rfl, ⟨kp.g, accV, _, rfl, kp.h, kp.i⟩, fun i o => ?_⟩, fun d a _ e => ?_⟩
              · exact new_un Rl hD i ((unlock_ow o).evo u3)
              · cases e
                exact g1.there Dl hD
          · exact h1.elim
        · exact h1.elim
    · exact h.elim
end
end
end VE
end

section
set_option Elab.async false
set_option linter.all false
set_option maxRecDepth 100000
set_option maxHeartbeats 1000000
/-! VE12: statements. -/
namespace VE
open PySem PySem.Spec L2

section
variable {M : Mdl} {N : List Str} {E : Ev} {sc : Scope} {k : Nat} {X : Cx} {W : WX} {σ : L2.St} {ρ : Ro} {G H : Hp} (S : Snd M N E)
theorem swaps_false {e : Expr} {t : Option Expr} {l : Nat} {env : Env} (h : isComp e = false) : swapsWith e t l env = pure false := by
  cases e <;> first | rfl | cases h
theorem sole_false {e t : Expr} {l : Nat} {env : Env} (h : isComp e = false) : swapsWithSole [t] e l env = pure false := by
  unfold swapsWithSole
  exact swaps_false h
/-- what putB stores -/
theorem putB_ok {ρ1 : Ro} {G1 H1 : Hp} {v : V} {b : Bv} {x : Str} {i : Nat} {D' : Ends} (R1 : Rep X.K G1 H1 σ ρ1) (g1 : Go σ ρ G H σ ρ1 G1 H1) (e1 : Evo ρ ρ1) (ov : Out X.K H G1 H1 σ ρ1 v b) (hi : ixN? N x = some i)
    (h : PostF X.mg X.K W σ ρ G H (putB N sc x b ρ1) D') : D'.nx (σ.set i (some v)) H1 := by
  cases b with
  | va d f =>
    cases f with
    | true =>
      cases es : store N sc x (.ow .own d) ρ1 with
      | none => simp only [putB, es, Rf.of] at h; exact h.elim
      | some ρ2 =>
        simp only [putB, es, Rf.of] at h
        obtain ⟨i', z1, _, z3, rfl⟩ := store_inv es
        rw [hi] at z1
        cases z1
        obtain ⟨dn, nw⟩ := ov
        obtain ⟨q1, q2⟩ := put_ok (v := v) (s := .ow .own d) (H0 := H) R1 z3 dn
        exact h _ G1 H1 (q2 (fun a ea _ => nw d a rfl ea) g1) q1
    | false =>
      cases es : store N sc x (.fz d) ρ1 with
      | none => simp only [putB, es, Rf.of] at h; exact h.elim
      | some ρ2 =>
        simp only [putB, es, Rf.of] at h
        obtain ⟨i', z1, _, z3, rfl⟩ := store_inv es
        rw [hi] at z1
        cases z1
        obtain ⟨q1, q2⟩ := put_fz (v := v) R1 z3 ov.1
        exact h _ G1 H1 (g1.trans q1) q2
  | «at» j =>
    simp only [putB] at h
    cases ew : whole (.at j) ρ1 with
    | stuck => rw [ew] at h; exact h.elim
    | exc c fs ρ2 => exact (whole_noexc ew).elim
    | ok d ρ2 =>
      rw [ew] at h
      simp only [Rs.toF] at h
      obtain ⟨G2, g2, e2, R2, i2⟩ := whole_of R1 g1 e1 ov ew
      cases es : store N sc x (.fz d) ρ2 with
      | none => rw [es] at h; exact h.elim
      | some ρ3 =>
        rw [es] at h
        obtain ⟨i', z1, _, z3, rfl⟩ := store_inv es
        rw [hi] at z1
        cases z1
        obtain ⟨q1, q2⟩ := put_fz (v := v) R2 z3 i2
        exact h _ G2 H1 (g2.trans q1) q2
include S
/-- x = e -/
theorem snd_set {x : Str} {px p : Pos} {v : Expr} {D' : Ends} (O : XOk M N sc k X W) (R : Rep X.K G H σ ρ) (hi : (ixN? N x).isSome = true) (hl : locK sc x = true) (hc : isComp v = false)
    (h : PostF X.mg X.K W σ ρ G H ((E.e sc v ρ).toF fun b ρ1 => putB N sc x b ρ1) D') : WS X (.Assign [.Name x px] v p) D' σ H := by
  obtain ⟨i, hi⟩ := Option.isSome_iff_exists.mp hi
  obtain ⟨l1, l2⟩ := O.loc hl
  refine WS.mk (ps_set (by rw [O.nm]; exact O.nd) (by rw [O.nm]; exact ixN_get hi) l1 pe_we (swaps_false hc) l2) ?_
  refine S.e O R (h.bind.imp fun b ρ1 G1 H1 eq g1 e1 R1 _ vv ov => ?_)
  rw [eq] at h
  exact putB_ok R1 g1 e1 ov hi h
/-- x = [..] -/
theorem snd_setLc {x : Str} {px p pc : Pos} {elt tg it : Expr} {ifs : List Expr} {scope : Scope} {D' : Ends} (O : XOk M N sc k X W) (R : Rep X.K G H σ ρ) (hi : (ixN? N x).isSome = true) (hl : locK sc x = true)
    (h : PostF X.mg X.K W σ ρ G H ((compS M N E sc elt tg it ifs scope ρ).toF fun b ρ1 => putB N sc x b ρ1) D') : WS X (.Assign [.Name x px] (.ListComp elt [⟨tg, it, ifs, 0⟩] scope pc) p) D' σ H := by
  obtain ⟨i, hi⟩ := Option.isSome_iff_exists.mp hi
  obtain ⟨l1, l2⟩ := O.loc hl
  have q : Post X.mg X.K W σ ρ G H (compS M N E sc elt tg it ifs scope ρ) (OutC X.K σ H fun v H1 => D'.nx (σ.set i (some v)) H1) := h.bind.imp fun b ρ1 G1 H1 eq g1 e1 R1 _ vv ov => by
    rw [eq] at h
    exact putB_ok R1 g1 e1 ov hi h
  obtain ⟨wi, g, tt, te, own, h1, h2, h3, h4, h5, h6, h7⟩ := comp_tlc S O R q
  have nd : X.N.Nodup := by rw [O.nm]; exact O.nd
  have nx : X.N[i]? = some x := by rw [O.nm]; exact ixN_get hi
  by_cases hy : X.env.scope.names.lookup x = some .local ∧ (px.line == pc.line) = true ∧ (scope.names.any fun (n, k) => n == x && (k == .local || k == .cell)) = false
  · exact WS.mk (ps_setLc O.calm nd nx hy.1 (sw_true O.kind hy.1 hy.2.1 hy.2.2) h1 h2 h3 h4 h5 h6) h7
  · refine WS.mk (ps_set nd nx l1 (pe_lc O.calm nd h1 h2 h3 h4 h5 h6) ?_ l2) h7
    have hb : X.env.blockKind = .function := by unfold Env.blockKind; rw [O.kind]; rfl
    have : (X.env.blockKind == .function && X.env.kindOf x == some .local && px.line == pc.line && !(scope.names.any fun (n, k) => n == x && (k == .local || k == .cell))) = false := by
      rw [hb]
      cases q1 : (X.env.kindOf x == some NameKind.local) with
      | false => rfl
      | true =>
        cases q2 : (px.line == pc.line) with
        | false => rfl
        | true =>
          cases q3 : (scope.names.any fun (n, k) => n == x && (k == .local || k == .cell)) with
          | true => rfl
          | false => exact absurd ⟨beq_iff_eq.mp q1, q2, q3⟩ hy
    unfold swapsWith
    show (pure (X.env.blockKind == .function && X.env.kindOf x == some .local && px.line == pc.line && !(scope.names.any fun (n, k) => n == x && (k == .local || k == .cell))) : Sem Bool) = pure false
    rw [this]
/-- a, b = e -/
theorem snd_setT {es : List Expr} {j : Nat} {pt p : Pos} {v : Expr} {D' : Ends} (O : XOk M N sc k X W) (R : Rep X.K G H σ ρ) (hn : es.all (nmOk N sc) = true) (ht : isTupE v = false) (hc : isComp v = false)
    (h : PostF X.mg X.K W σ ρ G H ((E.e sc v ρ).toF fun b ρ1 => (whole b ρ1).toF fun d ρ2 => Rf.of (asgT N sc (.Tuple es j pt) d ρ2)) D') : WS X (.Assign [.Tuple es j pt] v p) D' σ H := by
  obtain ⟨g, hg, hq⟩ := tg_ok O (tg := .Tuple es j pt) hn
  refine WS.mk (ps_asg pe_we hg ?_ ?_ rfl) ?_
  · exact sole_false hc
  · cases v <;> first | rfl | cases ht
  · refine S.e O R (h.bindW.imp fun b ρ1 G1 H1 _ g1 e1 R1 h1 vv ov => ?_)
    obtain ⟨d, ρ2, G2, g2, e2, R2, i2, h2⟩ := h1 vv ov
    cases ea : asgT N sc (.Tuple es j pt) d ρ2 with
    | none => rw [ea] at h2; exact h2.elim
    | some ρ3 =>
      rw [ea] at h2
      exact hq ea i2 R2 fun σ' g3 R3 _ => h2 σ' G2 H1 g3 R3
/-- o[i] = e -/
theorem snd_setSub {o ix v : Expr} {ps p : Pos} {D' : Ends} (O : XOk M N sc k X W) (R : Rep X.K G H σ ρ) (hc : isComp v = false) (hx : isSlice ix = false)
    (h : PostF X.mg X.K W σ ρ G H ((E.e sc v ρ).toF fun b ρ1 => (whole b ρ1).toF fun d ρ2 => (E.e sc o ρ2).toF fun t ρ3 => (match t with
      | .at i => (E.e sc ix ρ3).toF fun j ρ4 => (match deref ρ4 j, ρ4[i]? with
        | some (.int k), some (.ow md (.lst xs)) => (match ixN xs.length k with
          | some n => if md ≠ .lck then .next (ρ4.set i (.ow md (.lst (xs.set n d)))) else .stuck
          | none => .stuck)
        | _, _ => .stuck)
      | _ => .stuck)) D') : WS X (.Assign [.Subscript o ix ps] v p) D' σ H := by
  refine WS.mk (ps_asg pe_we (pg_sub pe_we pe_we set_list ?_) (sole_false hc) ?_ rfl) ?_
  · intro w
    cases ix <;> first | rfl | cases hx
  · cases v <;> rfl
  · refine S.e O R (h.bindW.imp fun b ρ1 G1 H1 _ g1 e1 R1 h1 vv ov => ?_)
    obtain ⟨d, ρ2, G2, g2, e2, R2, i2, h2⟩ := h1 vv ov
    refine S.e O R2 (h2.bind.imp fun t ρ3 G3 H3 _ g3 e3 R3 h3 vt ot => ?_)
    cases t with
    | va _ _ => exact h3.elim
    | «at» i =>
      have hi : σ[i]? = some (some vt) := ot.1
      have h3' : PostF X.mg X.K W σ ρ3 G3 H3 ((E.e sc ix ρ3).toF fun j ρ4 => (match deref ρ4 j, ρ4[i]? with
        | some (.int k), some (.ow md (.lst xs)) => (match ixN xs.length k with
          | some n => if md ≠ .lck then .next (ρ4.set i (.ow md (.lst (xs.set n d)))) else .stuck
          | none => .stuck)
        | _, _ => .stuck)) D' := h3
      refine S.e O R3 (h3'.bind.imp fun jb ρ4 G4 H4 _ g4 e4 R4 h4 vj oj => ?_)
      split at h4
      · rename_i kk md xs ej e
        split at h4
        · rename_i n en
          split at h4
          · rename_i hm
            obtain ⟨a', ea, d1, us, ds, d2, d3, d4⟩ := R4.sl i _ e
            rw [hi] at ea
            cases ea
            cases d2
            obtain ⟨go, ev, R5⟩ := mut_ok R4 e hm hi (d4.set ((i2.mono g3.g).mono g4.g) n)
            exact ⟨a', us, kk, n, rfl, (oj.1.deref R4 ej).int, d3, by rw [d4.length]; exact en, h4 σ G4 _ go R5⟩
          · exact h4.elim
        · exact h4.elim
      · exact h4.elim
/-- x += e -/
theorem snd_aug {x : Str} {px p : Pos} {op : Operator} {v : Expr} {D' : Ends} (O : XOk M N sc k X W) (R : Rep X.K G H σ ρ) (h : PostF X.mg X.K W σ ρ G H (stepS M N E sc (.AugAssign (.Name x px) op v p) ρ) D') :
    WS X (.AugAssign (.Name x px) op v p) D' σ H := by
  simp only [stepS] at h
  split at h
  case isFalse => exact h.elim
  rename_i hla
  obtain ⟨hl, has⟩ := Bool.and_eq_true_iff.mp hla
  split at h
  · exact h.elim
  rename_i i hi
  obtain ⟨l1, l2⟩ := O.loc hl
  have nd : X.N.Nodup := by rw [O.nm]; exact O.nd
  have nx : X.N[i]? = some x := by rw [O.nm]; exact ixN_get hi
  split at h
  case h_2 => exact h.elim
  rename_i a ea
  obtain ⟨va, z1, z2⟩ := R.sl i _ ea
  cases z2
  have fin : ∀ {ρ1 : Ro} {G1 H1 : Hp} {z : Int}, Rep X.K G1 H1 σ ρ1 → PostF X.mg X.K W σ ρ1 G1 H1 (Rf.of (store N sc x (.fz (.int z)) ρ1)) D' → D'.nx (σ.set i (some (.int z))) H1 := fun {ρ1 G1 H1 z} R1 h => by
    cases es : store N sc x (.fz (.int z)) ρ1 with
    | none => rw [es] at h; exact h.elim
    | some ρ2 =>
      rw [es] at h
      obtain ⟨i', y1, _, y3, rfl⟩ := store_inv es
      rw [hi] at y1
      cases y1
      obtain ⟨q1, q2⟩ := put_fz (v := .int z) R1 y3 (.int z)
      exact h _ G1 H1 q1 q2
  cases op with
  | Add =>
    refine WS.mk (ps_aug nd nx l1 pe_we ip_add l2) ⟨_, z1, ?_⟩
    refine S.e O R (h.bind.imp fun b ρ1 G1 H1 _ g1 e1 R1 h1 vv ov => ?_)
    split at h1
    · rename_i kk ek
      exact ⟨a, kk, rfl, (ov.1.deref R1 ek).int, fin R1 h1⟩
    · exact h1.elim
  | Sub =>
    refine WS.mk (ps_aug nd nx l1 pe_we ip_sub l2) ⟨_, z1, ?_⟩
    refine S.e O R (h.bind.imp fun b ρ1 G1 H1 _ g1 e1 R1 h1 vv ov => ?_)
    split at h1
    · rename_i kk ek
      exact ⟨a, kk, rfl, (ov.1.deref R1 ek).int, fin R1 h1⟩
    · exact h1.elim
  | _ => cases has
/-- return e -/
theorem snd_ret {e : Expr} {p : Pos} {D' : Ends} (O : XOk M N sc k X W) (R : Rep X.K G H σ ρ) (h : PostF X.mg X.K W σ ρ G H ((E.e sc e ρ).toF fun b ρ1 => .ret b ρ1) D') : WS X (.Return (some e) p) D' σ H := by
  refine WS.mk (ps_ret pe_we) ?_
  refine S.e O R (h.bind.imp fun b ρ1 G1 H1 eq g1 e1 R1 _ vv ov => ?_)
  rw [eq] at h
  exact h vv σ G1 H1 g1 R1 ov.1 ov.2
/-- an expression as a statement -/
theorem snd_drop {e : Expr} {p : Pos} {D' : Ends} (O : XOk M N sc k X W) (R : Rep X.K G H σ ρ) (hc : isComp e = false) (h : PostF X.mg X.K W σ ρ G H ((E.e sc e ρ).toF fun _ ρ1 => .next ρ1) D') : WS X (.Expr e p) D' σ H := by
  refine WS.mk (ps_expr pe_we (swaps_false hc)) ?_
  refine S.e O R (h.bind.imp fun b ρ1 G1 H1 _ g1 e1 R1 h1 vv ov => ?_)
  exact h1 σ G1 H1 Go.refl R1
theorem snd_if {c : Expr} {a b : List Stmt} {p : Pos} {D' : Ends} (O : XOk M N sc k X W) (Fm : Frm X) (R : Rep X.K G H σ ρ) (h : PostF X.mg X.K W σ ρ G H ((E.t sc c ρ).toF fun kk ρ1 => if kk then E.ss sc a ρ1 else E.ss sc b ρ1) D') : WS X (.If c a b p) D' σ H := by
  refine WS.mk (ps_if pt_wt pss_wss pss_wss) ?_
  refine S.t O R (h.bind.imp fun kk ρ1 G1 H1 _ g1 e1 R1 h1 => ?_)
  cases kk with
  | true =>
    rw [if_pos rfl] at h1 ⊢
    exact S.ss O Fm R1 h1
  | false =>
    rw [if_neg Bool.false_ne_true] at h1 ⊢
    exact S.ss O Fm R1 h1
theorem snd_ss {ss : List Stmt} {D' : Ends} (O : XOk M N sc k X W) (Fm : Frm X) (R : Rep X.K G H σ ρ) (h : PostF X.mg X.K W σ ρ G H (stepSs E sc ss ρ) D') : WSs X ss D' σ H := by
  cases ss with
  | nil => exact WSs.mk pss_nil (h σ G H Go.refl R)
  | cons s r =>
    refine WSs.mk (pss_cons ps_ws pss_wss) ?_
    refine S.s O Fm R ?_
    simp only [stepSs] at h
    cases q : E.s sc s ρ with
    | next ρ1 =>
      rw [q] at h
      exact fun σ1 G1 H1 g1 R1 => S.ss O Fm R1 (PostF.later (r := E.ss sc r ρ1) h g1)
    | stuck => rw [q] at h; exact h
    | brk ρ1 => rw [q] at h; exact h
    | cnt ρ1 => rw [q] at h; exact h
    | ret b ρ1 => rw [q] at h; exact h
    | exc c fs ρ1 => rw [q] at h; exact h
end
end VE
end

section
set_option Elab.async false
set_option linter.all false
set_option maxRecDepth 100000
set_option maxHeartbeats 1000000
/-! VS1: tuple(reversed(a)), list(g(..)), xs.pop(), a written dict. -/
namespace VE
open PySem PySem.Spec L2
section
variable {M : Mdl} {N : List Str} {E : Ev} {sc : Scope} {k : Nat} {X : Cx} {W : WX} {σ : L2.St} {ρ : Ro} {G H : Hp} {Q : VK} (S : Snd M N E)
theorem upd_upd {H : Hp} {p : Addr} {o o' : HO} : upd (upd H p o) p o' = upd H p o' := by
  funext b
  by_cases e : b = p
  · subst e
    rw [upd_same, upd_same]
  · rw [upd_ne e, upd_ne e, upd_ne e]
theorem snd_dict {i j : Int} {a b : Nat} {p p1 p2 : Pos} (R : Rep X.K G H σ ρ) (h : Post X.mg X.K W σ ρ G H (.ok (.va (.dic i j) false) ρ) (OutC X.K σ H Q)) : WE X (.Dict [some (.Constant (.int i) a p1)] [.Constant (.int j) b p2] p) σ H Q := by
  refine WE.mk (pe_disp (pps_cons pe_int pe_int pps_nil) rfl rfl (fun z => by cases z) (Nat.le_of_ble_eq_true rfl)) ?_
  refine fun q hq => ⟨upd_same, [(.inl i, .int j)], rfl, Nat.le_of_ble_eq_true rfl, ?_⟩
  have e : upd (upd H q (.dK [])) q (.dK (mergeK [] [((.inl i : Key), V.int j)])) = upd H q (.dK [(.inl i, .int j)]) := upd_upd
  rw [e]
  exact h (upd G q (.dK [(.inl i, .int j)])) _ (go_fix R hq) (Evo.refl ρ) (rep_fix R hq) (.ref q) ⟨.dic upd_same, fun _ _ e _ => nomatch e⟩
include S
theorem snd_tupRev {a : Expr} {p p2 p3 p4 : Pos} (O : XOk M N sc k X W) (R : Rep X.K G H σ ρ) (hg : gloK sc "tuple" = true) (hf : M.glob "tuple" = .free) (hr : isFree M sc "reversed" = true) (hs : notStar a = true)
    (h : Post X.mg X.K W σ ρ G H ((E.e sc a ρ).bind fun b ρ1 => (match deref ρ1 b with
        | some (.lst xs) => if szOk xs.length then .ok (.va (.tup xs.reverse) false) ρ1 else .stuck
        | _ => .stuck)) (OutC X.K σ H Q)) : WE X (.Call (.Name "tuple" p) [.Call (.Name "reversed" p2) [a] [] p3] [] p4) σ H Q := by
  obtain ⟨hg2, hm2, _⟩ := isFree_mg O hr
  refine WE.mk (RT.pe_tupRev O.calm (O.glo hg) (O.md.free _ hf) hg2 hm2 pe_we (star_cons hs)) ?_
  refine S.e O R (h.bind.imp fun b ρ1 G1 H1 _ g1 e1 R1 h1 v ov => ?_)
  split at h1
  · rename_i xs ed
    split at h1
    · obtain ⟨l, us, rfl, q1, il⟩ := (ov.1.deref R1 ed).lst R1.ex
      exact ⟨l, us, rfl, .inl (.inl q1), fun q hq => out_tup h1 R1 hq il.reverse⟩
    · exact h1.elim
  · exact h1.elim
theorem snd_pop {x : Str} {px : Pos} {m : Str} {ap p : Pos} (O : XOk M N sc k X W) (R : Rep X.K G H σ ρ) (hm : m = "pop") (hl : (ap.endLine == p.line) = true)
    (h : Post X.mg X.K W σ ρ G H ((E.e sc (.Name x px) ρ).bind fun x ρ1 => (match x with
          | .at i => popS i ρ1
          | _ => .stuck)) (OutC X.K σ H Q)) : WE X (.Call (.Attribute (.Name x px) m ap) [] [] p) σ H Q := by
  subst hm
  refine WE.mk (pe_bm0 PySem.F.plainAttrs_list PySem.F.slot_list_pop PySem.F.type_list_pop mt_pop pe_we rfl hl) ?_
  refine S.e O R (h.bind.imp fun y ρ1 G1 H1 _ g1 e1 R1 h1 vy oy => ?_)
  cases y with
  | va d f => exact h1.elim
  | «at» i =>
    have hi : σ[i]? = some (some vy) := oy.1
    have h2 : Post X.mg X.K W σ ρ1 G1 H1 (popS i ρ1) (OutC X.K σ H Q) := h1
    unfold popS at h2
    split at h2
    case h_2 => exact h2.elim
    rename_i md xs e0
    split at h2
    case isFalse => exact h2.elim
    rename_i hmd
    split at h2
    case h_2 => exact h2.elim
    rename_i d ed
    obtain ⟨a0, ea, d1, us, ds, d2, d3, d4⟩ := R1.sl i _ e0
    rw [hi] at ea
    cases ea
    cases d2
    refine ⟨.inl ⟨rfl, us, .inl (.inl d3)⟩, ?_⟩
    obtain ⟨v, ev, iv⟩ := d4.get ed
    have hlen := d4.length
    have il2 : IsL X.K G1 us.dropLast xs.dropLast := by
      rw [List.dropLast_eq_take, List.dropLast_eq_take, hlen]
      exact d4.take _
    obtain ⟨go, evo, R4⟩ := mut_ok R1 e0 hmd hi il2
    exact ⟨a0, us, v, rfl, rfl, d3, by rw [hlen]; exact ev, h2 G1 _ go evo R4 v ⟨iv, fun _ _ z _ => by cases z⟩⟩
theorem snd_listGen {g : Str} {a : Expr} {r : List Expr} {p p2 p3 p4 : Pos} (O : XOk M N sc k X W) (R : Rep X.K G H σ ρ) (hl : gloK sc "list" = true) (hf : M.glob "list" = .free) (hg : gloK sc g = true) (hs : (a :: r).all notStar = true) (hgen : M.glob g = .gen)
    (hsc : notStar (.Call (.Name g p2) (a :: r) [] p3) = true)
    (h : Post X.mg X.K W σ ρ G H (match E.es sc (a :: r) ρ with
        | .ok ds ρ1 => (match M.gen g ds with
          | some ys => .ok (.va (.lst ys) true) ρ1
          | none => .stuck)
        | _ => .stuck) (OutC X.K σ H Q)) : WE X (.Call (.Name "list" p) [.Call (.Name g p2) (a :: r) [] p3] [] p4) σ H Q := by
  have hs' : notStar a = true ∧ r.all notStar = true := by simpa using hs
  split at h
  case h_2 => exact h.elim
  rename_i ds ρ1 eds
  split at h
  case h_2 => exact h.elim
  rename_i ys eys
  obtain ⟨j, f, fd, ps, hj, hm, hk, F, hb, hlen⟩ := O.md.gen g ds ys hgen eys
  refine WE.mk (pe_listG (E := fun _ _ _ => False) (pgen_call F (O.room.mono (by omega)) (O.glo hg) hm hk hb .nil pa_wa (nameOk_dbg (glo_name hg)) (star_cons hs'.1) (star_none hs'.2)) (passes_call O.tk (fun _ _ _ _ z => z.elim)) (fun _ _ _ z => z.elim) (O.room.mono hj) (O.glo hl) (O.md.free _ hf) (by decide +kernel) (by decide) (by decide) (star_cons hsc)) ?_
  have key : Post X.mg X.K W σ ρ G H (E.es sc (a :: r) ρ) (fun ds' _ G1 H1 => ∀ vs, IsL X.K G1 vs ds' → spGn X.K M g ps.length (vs ++ []) H1 (fun out H2 => ∀ p, H2 p = none → Q (.ref p) (upd H2 p (.lst out))) fun _ _ _ => False) := by
    rw [eds]
    intro G1 H1 g1 e1 R1 vs il
    obtain ⟨RA, nm⟩ := rep_fz R1.ex il
    have iln : IsL X.K G1 (vs ++ []) ds := by
      rw [List.append_nil]
      exact il
    refine ⟨G1, ds, ys, by rw [iln.length, hlen], R1.ex, iln, eys, fun us G' H' go R' iu q hq => ?_⟩
    rw [List.append_nil] at go R'
    obtain ⟨go2, R2⟩ := frame_go nm go R'.ex R1
    refine h G' (upd H' q (.lst us)) ((g1.trans go2).trans (go_new hq)) e1 (rep_new R2 hq) (.ref q) ⟨⟨q, rfl, ⟨R2.gnone hq, us, ys, rfl, upd_same, iu⟩, new_un R2 hq⟩, fun _ y _ z => ?_⟩
    cases z
    exact g1.there q (go2.there q hq)
  exact S.es O R key
end
end VE
end

section
set_option Elab.async false
set_option linter.all false
set_option maxRecDepth 100000
set_option maxHeartbeats 1000000
/-! VE13: an expression, in all. -/
namespace VE
open PySem PySem.Spec L2

section
variable {M : Mdl} {N : List Str} {E : Ev} {sc : Scope} {k : Nat} {X : Cx} {W : WX} {σ : L2.St} {ρ : Ro} {G H : Hp} {Q : VK} (S : Snd M N E)
include S
theorem snd_lc {elt tg it : Expr} {ifs : List Expr} {scope : Scope} {p : Pos} (O : XOk M N sc k X W) (R : Rep X.K G H σ ρ) (h : Post X.mg X.K W σ ρ G H (compS M N E sc elt tg it ifs scope ρ) (OutC X.K σ H Q)) :
    WE X (.ListComp elt [⟨tg, it, ifs, 0⟩] scope p) σ H Q := by
  obtain ⟨wi, g, tt, te, own, h1, h2, h3, h4, h5, h6, h7⟩ := comp_tlc S O R h
  exact WE.mk (pe_lc O.calm (by rw [O.nm]; exact O.nd) h1 h2 h3 h4 h5 h6) h7
omit S in
theorem intC_ok {e : Expr} {i : Int} (h : intC e = some i) : ∃ a p, e = .Constant (.int i) a p := by
  unfold intC at h
  split at h
  · cases h
    exact ⟨_, _, rfl⟩
  · cases h
omit S in
theorem dictK_ok {ks : List (Option Expr)} {vs : List Expr} {i j : Int} (h : dictK ks vs = some (i, j)) : ∃ a b p1 p2, ks = [some (.Constant (.int i) a p1)] ∧ vs = [.Constant (.int j) b p2] := by
  unfold dictK at h
  split at h
  · rename_i k v
    cases e1 : intC k with
    | none => rw [e1] at h; cases h
    | some i' =>
      rw [e1] at h
      cases e2 : intC v with
      | none => rw [e2] at h; cases h
      | some j' =>
        rw [e2] at h
        cases h
        obtain ⟨a, p1, rfl⟩ := intC_ok e1
        obtain ⟨b, p2, rfl⟩ := intC_ok e2
        exact ⟨a, b, p1, p2, rfl, rfl⟩
  · cases h
omit S in
theorem spec_rev {f : Str} {args : List Expr} {a : Expr} (h : specK M sc f args = .rev a) : ∃ p q, f = "tuple" ∧ args = [.Call (.Name "reversed" p) [a] [] q] ∧ isFree M sc "reversed" = true ∧ notStar a = true ∧ True := by
  unfold specK at h
  split at h
  · split at h
    · rename_i e1
      split at h
      · rename_i e2
        split at h
        · split at h
          · rename_i c
            obtain ⟨c1, c2⟩ := Bool.and_eq_true_iff.mp c
            cases h
            subst e1 e2
            exact ⟨_, _, rfl, rfl, c1, c2, trivial⟩
          · cases h
        · cases h
      · cases h
    · split at h
      · split at h
        · cases h
        · cases h
      · cases h
  · cases h
omit S in
theorem spec_gen {f g : Str} {args es : List Expr} (h : specK M sc f args = .gen g es) : ∃ a r p q, f = "list" ∧ args = [.Call (.Name g p) (a :: r) [] q] ∧ es = a :: r ∧ gloK sc g = true ∧ (a :: r).all notStar = true ∧ M.glob g = .gen := by
  unfold specK at h
  split at h
  · split at h
    · split at h
      · split at h
        · split at h
          · cases h
          · cases h
        · cases h
      · cases h
    · split at h
      · rename_i e1
        split at h
        · rename_i c
          cases h
          subst e1
          obtain ⟨c0, c2⟩ := Bool.and_eq_true_iff.mp c
          obtain ⟨c1, c3⟩ := Bool.and_eq_true_iff.mp (show (gloK sc _ && _) = true from c0)
          refine ⟨_, _, _, _, rfl, rfl, rfl, c1, c2, ?_⟩
          split at c3
          · rename_i e
            exact e
          · cases c3
        · cases h
      · cases h
  · cases h
theorem snd_callS {f : Str} {a : Expr} {r : List Expr} {p p2 : Pos} (O : XOk M N sc k X W) (R : Rep X.K G H σ ρ) (h : Post X.mg X.K W σ ρ G H (callS M E sc f (a :: r) ρ) (OutC X.K σ H Q)) : WE X (.Call (.Name f p) (a :: r) [] p2) σ H Q := by
  unfold callS at h
  split at h
  case isFalse => exact h.elim
  rename_i c
  obtain ⟨c1, c2⟩ := Bool.and_eq_true_iff.mp c
  split at h
  · rename_i hf
    split at h
    · exact h.elim
    · rename_i ds ed
      exact snd_own S O R c1 c2 hf ed h
  · rename_i id hf
    split at h
    · rename_i e
      subst e
      exact snd_gcd S O R c1 c2 hf h
    · exact h.elim
  · rename_i hf
    split at h
    · rename_i e
      subst e
      split at h
      · rename_i a' c' ee
        cases ee
        split at h
        · rename_i xs hc
          split at h
          · rename_i c3
            simp only [Bool.and_eq_true, decide_eq_true_eq] at c3
            obtain ⟨⟨⟨k1, k2⟩, k3⟩, k4⟩ := c3
            exact snd_isi S O R c1 ⟨k3, k4⟩ hf hc k2 k1 h
          · exact h.elim
        · exact h.elim
      · exact h.elim
    · split at h
      · rename_i a' es
        obtain ⟨p3, p4, e1, e2, e3, e4, e5⟩ := spec_rev es
        subst e1
        cases e2
        exact snd_tupRev S O R c1 hf e3 e4 h
      · rename_i g' es' es
        obtain ⟨a', r', p3, p4, e1, e2, e3, e4, e5, e6⟩ := spec_gen es
        subst e1 e3
        cases e2
        exact snd_listGen S O R c1 hf e4 e5 e6 rfl h
      · split at h
        · exact h.elim
        · rename_i b hb
          exact snd_bi S O R c1 c2 hf hb h
  · exact h.elim
theorem snd_e {e : Expr} (O : XOk M N sc k X W) (R : Rep X.K G H σ ρ) (h : Post X.mg X.K W σ ρ G H (stepE M N E sc e ρ) (OutC X.K σ H Q)) : WE X e σ H Q := by
  cases e with
  | Name x p => exact snd_name O R h
  | Constant c j p => exact snd_const R h
  | BinOp a op b p => exact snd_bin S O R h
  | UnaryOp op a p => exact snd_un S O R h
  | BoolOp op vs p => exact snd_bool S O R h
  | IfExp c a b p => exact snd_ifx S O R h
  | Compare a ops bs p =>
    match ops, bs, h with
    | [op], [b], h => exact snd_cmp1 S O R h
    | [op, op'], [b, c], h => exact snd_cmp2 S O R h
    | [], _, h => exact (show False from h).elim
    | [_], [], h => exact (show False from h).elim
    | [_], _ :: _ :: _, h => exact (show False from h).elim
    | [_, _], [], h => exact (show False from h).elim
    | [_, _], [_], h => exact (show False from h).elim
    | [_, _], _ :: _ :: _ :: _, h => exact (show False from h).elim
    | _ :: _ :: _ :: _, _, h => exact (show False from h).elim
  | Tuple es j p => exact snd_tup S O R h
  | List es p => exact snd_lst S O R h
  | Dict ks vs p =>
    simp only [stepE] at h
    split at h
    · rename_i i j e
      obtain ⟨a, b, p1, p2, rfl, rfl⟩ := dictK_ok e
      exact snd_dict R h
    · exact h.elim
  | Subscript a s p =>
    cases s with
    | Slice lo hi st p2 =>
      cases st with
      | none => exact snd_cut S O R h
      | some _ => exact (show False from h).elim
    | _ => exact snd_ix S rfl O R h
  | FormattedValue v c sp p =>
    cases sp with
    | some _ => exact (show False from h).elim
    | none =>
      simp only [stepE] at h
      split at h
      · rename_i e
        subst e
        exact snd_fmt S O R h
      · exact h.elim
  | JoinedStr vs p =>
    match vs, h with
    | a :: b :: r, h => exact snd_joined S O R h
    | [], h => exact (show False from h).elim
    | [_], h => exact (show False from h).elim
  | ListComp elt gs scope p =>
    cases gs with
    | nil => exact (show False from h).elim
    | cons g r =>
      obtain ⟨tg, it, ifs, aw⟩ := g
      cases aw with
      | negSucc _ => cases r <;> exact (show False from h).elim
      | ofNat n =>
        cases n with
        | succ _ => cases r <;> exact (show False from h).elim
        | zero =>
          cases r with
          | cons _ _ => exact (show False from h).elim
          | nil => exact snd_lc S O R h
  | Call fn args kws p =>
    cases fn with
    | Name f pf =>
      match kws, args, h with
      | [], [], h => exact (show False from h).elim
      | [], a :: r, h => exact snd_callS S O R h
      | _ :: _, [], h => exact (show False from h).elim
      | kw :: kws, a :: r, h => exact snd_kw S O R h
    | Attribute o m ap =>
      cases o with
      | Name x px =>
        match kws, args, h with
        | [], [a], h =>
          simp only [stepE] at h
          split at h
          · rename_i hm
            split at h
            · rename_i c
              obtain ⟨c1, c2⟩ := Bool.and_eq_true_iff.mp c
              exact snd_append S O R hm c1 c2 h
            · exact h.elim
          · exact h.elim
        | [], [], h =>
          simp only [stepE] at h
          split at h
          · rename_i hm
            split at h
            · rename_i c
              exact snd_pop S O R hm c h
            · exact h.elim
          · exact h.elim
        | [], _ :: _ :: _, h => exact (show False from h).elim
        | _ :: _, _, h => exact (show False from h).elim
      | _ => exact (show False from h).elim
    | _ => exact (show False from h).elim
  | _ => exact (show False from h).elim
end
end VE
end

section
set_option Elab.async false
set_option linter.all false
set_option maxRecDepth 100000
set_option maxHeartbeats 1000000
/-! VE14: raise; the evaluator is sound. -/
namespace VE
open PySem PySem.Spec L2

section
variable {M : Mdl} {N : List Str} {E : Ev} {sc : Scope} {k : Nat} {X : Cx} {W : WX} {σ : L2.St} {ρ : Ro} {G H : Hp} (S : Snd M N E)
include S
theorem snd_raise {x : Str} {px pc p : Pos} {a : Expr} {r : List Expr} {D' : Ends} (O : XOk M N sc k X W) (R : Rep X.K G H σ ρ) (hg : gloK sc x = true) (hx : M.glob x = .ex) (hs : (a :: r).all notStar = true)
    (h : PostF X.mg X.K W σ ρ G H ((E.es sc (a :: r) ρ).toF fun ds ρ1 => (match M.mkx x ds with
        | some fs => .exc x fs ρ1
        | none => .stuck)) D') : WS X (.Raise (some (.Call (.Name x px) (a :: r) [] pc)) none p) D' σ H := by
  obtain ⟨C, hm, fI, fd, ps, sp, j, T, iC, tI, F, hb, hj, hmk⟩ := O.md.ex x hx
  have hs' : notStar a = true ∧ r.all notStar = true := by simpa using hs
  refine WS.mk (ps_raise O.calm O.tk (pmk_oex T iC tI F (O.room.mono hj) hb .nil (passes_call O.tk fun _ _ _ _ z => z.elim) (O.glo hg) hm pa_wa (nameOk_dbg (glo_name hg)) (star_cons hs'.1) (star_none hs'.2))) ?_
  refine S.es O R (h.bind.imp fun ds ρ1 G1 H1 _ g1 e1 R1 h1 vs il => ?_)
  split at h1
  · rename_i fs em
    obtain ⟨hl, hsp⟩ := hmk ds fs em
    refine ⟨by rw [il.length]; exact hl, fun e he => ?_⟩
    rw [List.append_nil]
    have il2 : IsL X.K G1 vs ds := il
    refine hsp G1 (upd H1 e (exo e C none)) vs e _ _ il2 upd_same fun d fsV H2 hd hde hf q1 q2 q3 => ⟨rfl, d, fsV, q1, q2, ?_, ?_⟩
    · rw [upd_ne hde] at hd
      exact hd
    · have hd1 : H1 d = none := by
        rw [upd_ne hde] at hd
        exact hd
      have eH : upd (del H2 e) d (.xd fsV) = upd H1 d (.xd fsV) := by
        funext b
        by_cases hb1 : b = d
        · subst hb1
          rw [upd_same, upd_same]
        · rw [upd_ne hb1, upd_ne hb1]
          by_cases hb2 : b = e
          · subst hb2
            rw [del_same, he]
          · rw [del_ne hb2, q3 b hb2 hb1, upd_ne hb2]
      rw [eH]
      exact h1 _ _ σ (upd G1 d (.xd fsV)) _ (go_fix R1 hd1) (rep_fix R1 hd1) ⟨C, d, fsV, hm, rfl, rfl, upd_same, fsL_mono (same_upd (R1.gnone hd1)) hf⟩
  · exact h1.elim
where fsL_mono {K : PySem.W.Frag} {G G' : Hp} (g : Same G G') : ∀ {vs : List (Str × V)} {ds : List (Str × D)}, FsL K G vs ds → FsL K G' vs ds
  | _, _, .nil => .nil
  | _, _, .cons h r => .cons (h.mono g) (fsL_mono g r)
omit S in
theorem swapped2 {x y : Str} {px py pt pt2 : Pos} {kt k2 : Nat} {a b : Expr} {env : Env} (hk : env.blockKind = .function) (hx : env.kindOf x = some .local) (hy : env.kindOf y = some .local) (hl : (py.line == px.line) = true) (ha : notStar a = true) (hb : notStar b = true) (hxy : x ≠ y)
    (h1 : [a, b].all (foldedForSure 8) = false) (h2 : [a, b].all (constantsAlone 8) = false) : swappedStores [.Tuple [.Name x px, .Name y py] kt pt] (.Tuple [a, b] k2 pt2) env = pure (some [x, y]) := by
  have e1 : (env.kindOf x == some NameKind.local) = true := by rw [hx]; rfl
  have e2 : (env.kindOf y == some NameKind.local) = true := by rw [hy]; rfl
  have e3 : ((([Expr.Name x px, .Name y py] : List Expr).head?.map (·.pos.line)).getD 0) = px.line := rfl
  have hu : ([x, y] : List Str).eraseDups.length = 2 := by
    have : (y == x) = false := by simpa using Ne.symm hxy
    simp [List.eraseDups_cons, this]
  unfold swappedStores
  simp only [List.filterMap_cons, List.filterMap_nil, e1, e2, e3, hl, Bool.and_self, beq_self_eq_true, if_true, hu]
  rw [if_neg (by rw [hk]; exact Bool.false_ne_true)]
  rw [if_neg (by cases a <;> cases b <;> first | exact Bool.false_ne_true | (cases ha; done) | (cases hb; done))]
  rw [if_neg (show ¬ ((([x, y] : List Str).length != ([Expr.Name x px, Expr.Name y py] : List Expr).length || (2 != ([x, y] : List Str).length)) = true) from Bool.false_ne_true), if_neg (by rw [h1]; exact Bool.false_ne_true), if_neg (by rw [h2]; exact Bool.false_ne_true)]
theorem snd_par {x y : Str} {px py pt pt2 p : Pos} {kt k2 : Nat} {a b : Expr} {D' : Ends} (O : XOk M N sc k X W) (R : Rep X.K G H σ ρ) (hc : parC N sc x px y py a b = true)
    (h : PostF X.mg X.K W σ ρ G H ((E.es sc [a, b] ρ).toF fun ds ρ1 => (match ds with
      | [d, e] => Rf.of ((store N sc x (.fz d) ρ1).bind fun ρ2 => store N sc y (.fz e) ρ2)
      | _ => .stuck)) D') : WS X (.Assign [.Tuple [.Name x px, .Name y py] kt pt] (.Tuple [a, b] k2 pt2) p) D' σ H := by
  unfold parC at hc
  simp only [Bool.and_eq_true, decide_eq_true_eq, Bool.not_eq_true'] at hc
  obtain ⟨⟨⟨⟨⟨⟨⟨⟨⟨c1, c2⟩, c3⟩, c4⟩, c5⟩, c6⟩, c7⟩, c8⟩, c9⟩, c10⟩ := hc
  have loc : ∀ {z : Str}, (match sc.names.lookup z with | some .local => true | _ => false) = true → X.env.scope.names.lookup z = some .local := fun {z} q => by
    split at q
    · rename_i e
      rcases O.rel z with r | ⟨r, _⟩
      · rw [r, e]
      · rw [e] at r; cases r
    · cases q
  obtain ⟨i, hi⟩ := Option.isSome_iff_exists.mp c4
  obtain ⟨j, hj⟩ := Option.isSome_iff_exists.mp c5
  have nx : X.N[i]? = some x := by rw [O.nm]; exact ixN_get hi
  have ny : X.N[j]? = some y := by rw [O.nm]; exact ixN_get hj
  have hij : i ≠ j := fun z => c1 (by rw [z, ny] at nx; exact (Option.some.inj nx).symm)
  have hb : X.env.blockKind = .function := by unfold Env.blockKind; rw [O.kind]; rfl
  refine WS.mk (ps_par O.calm (by rw [O.nm]; exact O.nd) nx ny hij (loc c2) (loc c3) pa_wa (swapped2 hb (loc c2) (loc c3) c6 c7 c8 c1 c9 c10) rfl) ?_
  refine S.es O R (h.bind.imp fun ds ρ1 G1 H1 _ g1 e1 R1 h1 vs il => ?_)
  split at h1
  · rename_i d e _
    cases il with | cons i1 il => cases il with | cons i2 il => cases il with | nil =>
    rename_i v w
    cases es : (store N sc x (.fz d) ρ1).bind fun ρ2 => store N sc y (.fz e) ρ2 with
    | none => rw [es] at h1; exact h1.elim
    | some ρ3 =>
      rw [es] at h1
      obtain ⟨ρ2, s1, s2⟩ := bind_some' es
      obtain ⟨i', z1, _, z3, rfl⟩ := store_inv s1
      rw [hi] at z1
      cases z1
      obtain ⟨q1, q2⟩ := put_fz (v := v) R1 z3 i1
      obtain ⟨j', z1, _, z3', rfl⟩ := store_inv s2
      rw [hj] at z1
      cases z1
      obtain ⟨q3, q4⟩ := put_fz (v := w) q2 z3' i2
      exact ⟨v, w, rfl, h1 _ G1 H1 (q1.trans q3) q4⟩
  · exact h1.elim
omit S in
theorem fsL_lookup {K : PySem.W.Frag} {G : Hp} {f : Str} {d : D} : ∀ {xs : List (Str × V)} {fs : List (Str × D)}, FsL K G xs fs → fs.lookup f = some d → ∃ v, xs.lookup f = some v ∧ Is K G v d
  | _, _, .nil, h => by cases h
  | (y, v) :: xs, (_, e) :: fs, .cons i r, h => by
    rw [List.lookup_cons] at h ⊢
    cases q : f == y with
    | true =>
      rw [q] at h
      cases h
      exact ⟨v, rfl, i⟩
    | false =>
      rw [q] at h
      exact fsL_lookup r h
/-- what is known in an except suite -/
structure Su (M : Mdl) (N : List Str) (X : Cx) (G1 : Hp) (σs : L2.St) (x : Str) (fs : List (Str × D)) (n : Str) (i : Nat) (a : Addr) (oe : Obj) (cls : Value) (dd : Option Addr) : Prop where
  z : Zc cls dd oe
  f : ∃ vs, oe.data = .fields vs
  ix : ixN? N n = some i
  ok : nameOk n = true
  lc : X.env.scope.names.lookup n = some .local
  sl : σs[i]? = some (some (.ref a))
  xi : XIs X.mg X.K G1 cls dd x fs
section
variable {G1 : Hp} {σs : L2.St} {x n : Str} {fs : List (Str × D)} {i : Nat} {a : Addr} {oe : Obj} {cls : Value} {dd : Option Addr} {pn : List (Addr × Obj)}
omit S in
theorem sufA_ok (O : XOk M N sc k X W) (U : Su M N X G1 σs x fs n i a oe cls dd) {e : Expr} {d : D} (h : sufA M x fs n e = some d) :
    ∃ t, PE (X.suite a ((a, oe) :: pn)) e t ∧ ∀ {G' H' : Hp} {Q : VK}, Same G1 G' → Same G' H' → (∀ v, Is X.K G' v d → Q v H') → t σs H' Q := by
  cases e with
  | Constant c j p =>
    simp only [sufA] at h
    split at h
    · cases h; exact ⟨_, pe_int, fun _ _ q => q _ (.int _)⟩
    · cases h; exact ⟨_, pe_bl, fun _ _ q => q _ (.bl _)⟩
    · cases h; exact ⟨_, pe_non, fun _ _ q => q _ .non⟩
    · cases h; exact ⟨_, pe_str, fun _ _ q => q _ (.str _)⟩
    · cases h
  | Attribute o f p =>
    cases o with
    | Name m pm =>
      simp only [sufA] at h
      split at h
      · rename_i e
        subst e
        split at h
        · rename_i hf
          obtain ⟨C, hm, T, hno⟩ := O.md.fld x f hf
          obtain ⟨C', dx, xs, hm', ec, ed, eg, fl⟩ := U.xi
          rw [hm] at hm'
          cases hm'
          have pv : PE (X.suite a ((a, oe) :: pn)) (.Name m pm) (tVar i) := pe_var (X := X.suite a ((a, oe) :: pn)) (by show X.N[i]? = _; rw [O.nm]; exact ixN_get U.ix) (.inl U.lc) (nameOk_dbg U.ok) (nameOk_cd U.ok)
          refine ⟨_, pe_xf T hno U.z U.f pv, fun {G' H' Q} g1 g2 q => ?_⟩
          obtain ⟨v, ev, iv⟩ := fsL_lookup fl h
          exact ⟨.ref a, U.sl, rfl, ec, dx, xs, v, ed, g2 _ _ (g1 _ _ eg), ev, q v (iv.mono g1)⟩
        · cases h
      · cases h
    | _ => cases h
  | _ => cases h
omit S in
theorem sufL_ok (O : XOk M N sc k X W) (U : Su M N X G1 σs x fs n i a oe cls dd) : ∀ {es : List Expr} {ds : List D}, sufL M x fs n es = some ds →
    ∃ t, PA (X.suite a ((a, oe) :: pn)) es t ∧ ∀ {G' H' : Hp} {Q : List V → Hp → Prop}, Same G1 G' → Same G' H' → (∀ vs, IsL X.K G' vs ds → Q vs H') → t σs H' Q
  | [], ds, h => by
    cases h
    exact ⟨_, pa_nil, fun _ _ q => q [] .nil⟩
  | e :: es, ds, h => by
    unfold sufL at h
    split at h
    · rename_i hs
      obtain ⟨d, h1, h⟩ := bind_some' h
      obtain ⟨ds', h2, rfl⟩ := map_some h
      obtain ⟨t, p1, q1⟩ := sufA_ok O U h1
      obtain ⟨ts, p2, q2⟩ := sufL_ok O U h2
      exact ⟨_, pa_cons p1 p2 (star_cons hs), fun g1 g2 q => q1 g1 g2 fun v iv => q2 g1 g2 fun vs il => q (v :: vs) (.cons iv il)⟩
    · cases h
omit S in
theorem sufE_ok (O : XOk M N sc k X W) (U : Su M N X G1 σs x fs n i a oe cls dd) {e : Expr} {d : D} (h : sufE M x fs n e = some d) :
    ∃ t, PE (X.suite a ((a, oe) :: pn)) e t ∧ ∀ {σ0 : L2.St} {ρ0 : Ro} {G' H' : Hp} {Q : VK}, Same G1 G' → Rep X.K G' H' σ0 ρ0 → (∀ v G2 H2, Go σ0 ρ0 G' H' σ0 ρ0 G2 H2 → Rep X.K G2 H2 σ0 ρ0 → Is X.K G2 v d → Q v H2) → t σs H' Q := by
  have at_ : ∀ {e : Expr} {d : D}, sufA M x fs n e = some d → ∃ t, PE (X.suite a ((a, oe) :: pn)) e t ∧ ∀ {σ0 : L2.St} {ρ0 : Ro} {G' H' : Hp} {Q : VK}, Same G1 G' → Rep X.K G' H' σ0 ρ0 → (∀ v G2 H2, Go σ0 ρ0 G' H' σ0 ρ0 G2 H2 → Rep X.K G2 H2 σ0 ρ0 → Is X.K G2 v d → Q v H2) → t σs H' Q := fun {e d} h => by
    obtain ⟨t, p, q⟩ := sufA_ok O U h
    exact ⟨t, p, fun g1 R q' => q g1 R.ex fun v iv => q' v _ _ Go.refl R iv⟩
  cases e with
  | Tuple es j p =>
    obtain ⟨ds, h1, h⟩ := bind_some' (show ((sufL M x fs n es).bind fun ds => if szOk ds.length then some (D.tup ds) else none) = some d from h)
    split at h
    · rename_i c
      cases h
      obtain ⟨t, p1, q1⟩ := sufL_ok O U h1
      refine ⟨_, pe_tup p1, fun {σ0 ρ0 G' H' Q} g1 R q => q1 g1 R.ex fun vs il => ⟨by rw [il.length]; exact of_decide_eq_true c, fun pp hp => ?_⟩⟩
      exact q (.ref pp) _ _ (go_fix R hp) (rep_fix R hp) (.tup (.inl (.inl upd_same)) (il.mono (same_upd (R.gnone hp))))
    · cases h
  | List es p =>
    obtain ⟨ds, h1, h⟩ := bind_some' (show ((sufL M x fs n es).bind fun ds => if szOk ds.length then some (D.lst ds) else none) = some d from h)
    split at h
    · rename_i c
      cases h
      obtain ⟨t, p1, q1⟩ := sufL_ok O U h1
      refine ⟨_, pe_lst p1, fun {σ0 ρ0 G' H' Q} g1 R q => q1 g1 R.ex fun vs il => ⟨by rw [il.length]; exact of_decide_eq_true c, fun pp hp => ?_⟩⟩
      exact q (.ref pp) _ _ (go_fix R hp) (rep_fix R hp) (.lst upd_same (il.mono (same_upd (R.gnone hp))))
    · cases h
  | Constant c j p => exact at_ h
  | Attribute o f p => exact at_ h
  | _ => cases h
omit S in
theorem sufS_ok (O : XOk M N sc k X W) {σ' : L2.St} {ρ1 : Ro} {G' H' : Hp} (U : Su M N X G' (σ'.set i (some (.ref a))) x fs n i a oe cls dd) (R : Rep X.K G' H' (σ'.set i none) (ρ1.set i .un)) {st : Stmt} {D' : Ends}
    (h : PostF X.mg X.K W (σ'.set i none) (ρ1.set i .un) G' H' (sufS M N sc x fs n st (ρ1.set i .un)) D') {bk ct : L2.St → Hp → Prop} :
    WSs (X.suite a ((a, oe) :: pn)) [st] { nx := fun σ2 H2 => D'.nx (σ2.set i none) H2, rt := D'.rt, bk := bk, ct := ct } (σ'.set i (some (.ref a))) H' := by
  cases st with
  | Pass p =>
    refine WSs.mk (pss_cons ps_pass pss_nil) ?_
    show D'.nx ((σ'.set i (some (.ref a))).set i none) H'
    rw [List.set_set]
    exact h _ G' H' Go.refl R
  | Return e p =>
    cases e with
    | none => exact WSs.mk (pss_cons ps_retN pss_nil) (h .non _ G' H' Go.refl R .non fun _ _ z _ => by cases z)
    | some e =>
      simp only [sufS] at h
      split at h
      · rename_i d ed
        obtain ⟨t, p1, q1⟩ := sufE_ok O U ed
        refine WSs.mk (pss_cons (ps_ret p1) pss_nil) ?_
        exact q1 (Same.refl _) R fun v G2 H2 g R2 iv => h v _ G2 H2 g R2 iv fun _ _ z _ => by cases z
      · exact h.elim
  | Assign ts e p =>
    cases ts with
    | nil => exact (show False from h).elim
    | cons t ts =>
      cases ts with
      | cons _ _ => cases t <;> exact (show False from h).elim
      | nil =>
        cases t with
        | Name y py =>
          simp only [sufS] at h
          split at h
          · rename_i c
            simp only [Bool.and_eq_true, decide_eq_true_eq, Bool.not_eq_true'] at c
            split at h
            · rename_i d ed
              obtain ⟨t, p1, q1⟩ := sufE_ok (pn := pn) O U ed
              cases es : store N sc y (.fz d) (ρ1.set i .un) with
              | none => rw [es] at h; exact h.elim
              | some ρ2 =>
                rw [es] at h
                obtain ⟨j, z1, z2, z3, rfl⟩ := store_inv es
                obtain ⟨l1, l2⟩ := O.loc z2
                have hij : i ≠ j := fun z => c.1 (by
                  have e1 := ixN_get z1
                  have e2 := ixN_get U.ix
                  rw [z, e1] at e2
                  exact Option.some.inj e2)
                refine WSs.mk (pss_cons (ps_set (X := X.suite a ((a, oe) :: pn)) (by show X.N.Nodup; rw [O.nm]; exact O.nd) (by show X.N[j]? = _; rw [O.nm]; exact ixN_get z1) l1 p1 (swaps_false c.2) l2) pss_nil) ?_
                refine q1 (Same.refl _) R fun v G2 H2 g R2 iv => ?_
                show D'.nx (((σ'.set i (some (.ref a))).set j (some v)).set i none) H2
                rw [List.set_comm _ _ (Ne.symm hij), List.set_set]
                obtain ⟨q3, q4⟩ := put_fz (v := v) R2 z3 iv
                exact h _ G2 H2 (g.trans q3) q4
            · exact h.elim
          · exact h.elim
        | _ => exact (show False from h).elim
  | _ => exact (show False from h).elim
end
/-- try: .. except C as n: one statement over n's fields -/
theorem snd_try {body : List Stmt} {c n : Str} {pc ph p : Pos} {st : Stmt} {i : Nat} {D' : Ends} (O : XOk M N sc k X W) (Fm : Frm X) (R : Rep X.K G H σ ρ) (hi : ixN? N n = some i) (hl : X.env.scope.names.lookup n = some .local) (hn : nameOk n = true) (hg : gloK sc c = true) (hx : M.glob c = .ex)
    (h : PostF X.mg X.K W σ ρ G H (match E.ss sc body ρ with
      | .exc x fs ρ1 => (match M.isx x c with
        | some false => .exc x fs ρ1
        | some true => if flatSl ρ1[i]? then sufS M N sc x fs n st (ρ1.set i .un) else .stuck
        | none => .stuck)
      | r => r) D') : WS X (.Try body [.ExceptHandler (some (.Name c pc)) (some n) [st] ph] [] [] p) D' σ H := by
  obtain ⟨C, hm, _⟩ := O.md.ex c hx
  have nd : X.N.Nodup := by rw [O.nm]; exact O.nd
  have nx : X.N[i]? = some n := by rw [O.nm]; exact ixN_get hi
  refine WS.mk (ps_try_as (tb := fun W' D σ H => ∀ pn xe, Takes (X.tr pn xe) W' → PassesOwn (model X.prog X.w) X.A X.env xe → WSs (X.tr pn xe) body D σ H)
    (ts := fun a cls d D σ H => ∀ oe pn, Zc cls d oe → (∃ vs, oe.data = .fields vs) → WSs (X.suite a ((a, oe) :: pn)) [st] D σ H) (Wout := W) Fm.1 Fm.2 nd nx hl ⟨O.glo hg, nameOk_dbg (glo_name hg), .inl hm⟩ O.tk
    (fun W' pn xe tk hp => ⟨fun pins s σ H D I h => pss_wss.run pins s σ H D I (h pn xe tk hp)⟩) (fun a oe cls d pn hz hf => ⟨fun pins s σ H D I h => pss_wss.run pins s σ H D I (h oe pn hz hf)⟩)) ?_
  intro pn xe tk hp
  refine S.ss (X := X.tr pn xe) (W := wAs X.K (.ref C) i _ W D') (k := k) ⟨O.nm, O.nd, O.rel, O.fn, O.kind, O.calm, O.room, tk, hp, O.md⟩ Fm R ?_
  cases er : E.ss sc body ρ with
  | stuck => rw [er] at h; exact h
  | next ρ1 => rw [er] at h; exact h
  | brk ρ1 => rw [er] at h; exact h
  | cnt ρ1 => rw [er] at h; exact h
  | ret b ρ1 => rw [er] at h; exact h
  | exc x fs ρ1 =>
    rw [er] at h
    intro cls dd σ' G' H' g R' xi
    simp only at h
    cases eb : M.isx x c with
    | none => rw [eb] at h; exact h.elim
    | some b =>
      rw [eb] at h
      obtain ⟨C1, C2, m1, m2, ex⟩ := O.md.isx x c b eb
      rw [hm] at m2
      cases m2
      have xi' := xi
      obtain ⟨C', dx, xs, m3, ec, _, _, _⟩ := xi'
      have m3' : X.mg x = some (.ref C') := m3
      rw [m1] at m3'
      cases m3'
      refine ⟨b, by rw [ec]; exact ex, fun hb a ha => ?_, fun hb => ?_⟩
      · subst hb
        simp only at h
        split at h
        · rename_i hfl
          intro oe pn' hz hf
          have fl : FlatAt ρ1 [i] := fun j hj => by
            have e : j = i := by simpa using hj
            rw [e]
            exact hfl
          obtain ⟨w1, w2⟩ := wipe_ok R' fl
          have hlt : i < σ'.length := by
            rw [R'.len]
            cases q : ρ1[i]? with
            | none => rw [q] at hfl; cases hfl
            | some s => exact lt_get q
          have U : Su M N X G' (σ'.set i (some (.ref a))) x fs n i a oe cls dd := ⟨hz, hf, hi, hn, hl, List.getElem?_set_self hlt, xi⟩
          exact sufS_ok O U w2 (PostF.later (r := sufS M N sc x fs n st (ρ1.set i .un)) h (g.trans w1))
        · exact h.elim
      · subst hb
        exact h cls dd σ' G' H' g R' xi
omit S in
theorem loc_of (O : XOk M N sc k X W) {z : Str} (e : sc.names.lookup z = some .local) : X.env.scope.names.lookup z = some .local := by
  rcases O.rel z with r | ⟨r, _⟩
  · rw [r, e]
  · rw [e] at r; cases r
theorem snd_s {st : Stmt} {D' : Ends} (O : XOk M N sc k X W) (Fm : Frm X) (R : Rep X.K G H σ ρ) (h : PostF X.mg X.K W σ ρ G H (stepS M N E sc st ρ) D') : WS X st D' σ H := by
  cases st with
  | Assign ts v p =>
    match ts, h with
    | [], h => exact (show False from h).elim
    | _ :: _ :: _, h => exact (show False from h).elim
    | [tg], h =>
      cases tg with
      | Name x px =>
        simp only [stepS] at h
        split at h
        · rename_i c
          obtain ⟨c1, c2⟩ := Bool.and_eq_true_iff.mp c
          split at h
          · exact snd_setLc S O R c1 c2 h
          · split at h
            · exact h.elim
            · rename_i hc
              exact snd_set S O R c1 c2 (by simpa using hc) h
        · exact h.elim
      | Tuple es j pt =>
        have gen : ∀ {v : Expr}, PostF X.mg X.K W σ ρ G H (if es.all (nmOk N sc) && !isComp v then (E.e sc v ρ).toF fun b ρ1 => (whole b ρ1).toF fun d ρ2 => Rf.of (asgT N sc (.Tuple es j pt) d ρ2) else .stuck) D' → isTupE v = false → WS X (.Assign [.Tuple es j pt] v p) D' σ H := fun {v} h ht => by
          split at h
          · rename_i c
            simp only [Bool.and_eq_true, Bool.not_eq_true'] at c
            exact snd_setT S O R c.1 ht c.2 h
          · exact h.elim
        cases v with
        | Tuple vs j2 pt2 =>
          have h' : PostF X.mg X.K W σ ρ G H (parS N E sc es vs ρ) D' := h
          unfold parS at h'
          split at h'
          · split at h'
            · rename_i hc
              exact snd_par S O R hc h'
            · exact h'.elim
          · exact h'.elim
        | _ => exact gen h rfl
      | Subscript o ix ps =>
        simp only [stepS] at h
        split at h
        · exact h.elim
        · rename_i hc
          simp only [Bool.or_eq_true, not_or, Bool.not_eq_true] at hc
          exact snd_setSub S O R hc.1 hc.2 h
      | _ => exact (show False from h).elim
  | AugAssign tg op v p =>
    cases tg with
    | Name x px => exact snd_aug S O R h
    | _ => exact (show False from h).elim
  | Expr e p =>
    cases e with
    | Constant c j pc =>
      cases c with
      | str z => exact WS.mk ps_doc (h σ G H Go.refl R)
      | _ => exact snd_drop S O R rfl h
    | ListComp _ _ _ _ => exact (show False from h).elim
    | SetComp _ _ _ _ => exact (show False from h).elim
    | DictComp _ _ _ _ _ => exact (show False from h).elim
    | _ => exact snd_drop S O R rfl h
  | Pass p => exact WS.mk ps_pass (h σ G H Go.refl R)
  | Break p => exact WS.mk ps_break (h σ G H Go.refl R)
  | Continue p => exact WS.mk ps_continue (h σ G H Go.refl R)
  | Return e p =>
    cases e with
    | none => exact WS.mk ps_retN (h .non σ G H Go.refl R .non fun _ _ z _ => by cases z)
    | some e => exact snd_ret S O R h
  | If c a b p => exact snd_if S O Fm R h
  | For tg it body orelse p =>
    cases orelse with
    | nil => exact snd_for S O Fm R h
    | cons _ _ => exact (show False from h).elim
  | While c body orelse p =>
    cases orelse with
    | nil => exact snd_while S O Fm R h
    | cons _ _ => exact (show False from h).elim
  | Try body hds orelse fin p =>
    unfold stepS at h
    split at h
    all_goals try (rename_i q; cases q; done)
    all_goals try exact h.elim
    rename_i e
    cases e
    split at h
    · exact h.elim
    · rename_i i hi
      split at h
      · rename_i c
        have hl := loc_of O c
        split at h
        · rename_i hx
          split at h
          · rename_i cc
            simp only [Bool.and_eq_true, Bool.true_and, Bool.and_true] at cc
            exact snd_try S O Fm R hi hl cc.1 cc.2 hx h
          · exact h.elim
        · split at h
          · rename_i cc
            rw [Bool.and_false, Bool.and_false] at cc
            cases cc
          · exact h.elim
      · rw [Bool.false_and, Bool.false_and] at h
        exact (show False from h).elim
  | Raise e c p =>
    cases c with
    | some _ =>
      cases e with
      | none => exact (show False from h).elim
      | some e => exact (show False from by unfold stepS at h; split at h <;> first | exact h.elim | (rename_i z; cases z)).elim
    | none =>
      cases e with
      | none => exact (show False from h).elim
      | some e =>
        cases e with
        | Call fn args kws pc =>
          cases fn with
          | Name x px =>
            match args, kws, h with
            | [], _, h => exact (show False from h).elim
            | _ :: _, _ :: _, h => exact (show False from h).elim
            | a :: r, [], h =>
              simp only [stepS] at h
              split at h
              · rename_i c
                obtain ⟨c1, c2⟩ := Bool.and_eq_true_iff.mp c
                split at h
                · rename_i hx
                  exact snd_raise S O R c1 hx c2 h
                · exact h.elim
              · exact h.elim
          | _ => exact (show False from h).elim
        | _ => exact (show False from h).elim
  | _ => exact (show False from h).elim
omit S in
theorem snd_step {E : Ev} (S : Snd M N E) : Snd M N (step M N E) where
  e := fun O R h => VE.snd_e S O R h
  t := fun O R h => VE.snd_t S O R h
  es := fun O R h => VE.snd_es S O R h
  as := fun O R h => VE.snd_as S O R h
  s := fun O Fm R h => VE.snd_s S O Fm R h
  ss := fun O Fm R h => VE.snd_ss S O Fm R h
omit S in
theorem snd_bot : Snd M N Ev.bot := ⟨fun _ _ h => (show False from h).elim, fun _ _ h => (show False from h).elim, fun _ _ h => (show False from h).elim, fun _ _ h => (show False from h).elim, fun _ _ _ h => (show False from h).elim, fun _ _ _ h => (show False from h).elim⟩
omit S in
/-- the evaluator is sound -/
theorem snd_ev : ∀ n, Snd M N (ev M N n)
  | 0 => snd_bot
  | n + 1 => snd_step (snd_ev n)
end
end VE
end

section
set_option Elab.async false
set_option linter.all false
set_option maxRecDepth 100000
set_option maxHeartbeats 1000000
/-! VE15: functions. -/
namespace VE
open PySem PySem.Spec L2

/-- a def -/
structure Fn where
  N : List Str
  np : Nat
  sc : Scope
  body : List Stmt
def parOk : Sl → Bool
  | .fz _ => true
  | .ow .par _ => true
  | .ow .lck _ => true
  | _ => false
/-- what the parameters' slots are, behind the body: a list of the caller's as it is now, else as it was -/
def outS : List Sl → Ro → List Sl
  | [], _ => []
  | .ow _ d :: sls, s :: ρ => s :: outS sls ρ
  | .ow m d :: sls, [] => .ow m d :: outS sls []
  | s :: sls, _ :: ρ => s :: outS sls ρ
  | s :: sls, [] => s :: outS sls []
def endF (sls : List Sl) : Rf → Cr
  | .next ρ => .ret .non false (outS sls ρ)
  | .ret (.va d f) ρ => .ret d f (outS sls ρ)
  | .ret (.at i) ρ => (match ρ[i]? with
    | some (.ow .own d) => .ret d true (outS sls ρ)
    | _ => (match whole (.at i) ρ with
      | .ok d ρ1 => .ret d false (outS sls ρ1)
      | _ => .stuck))
  | .exc c fs ρ => .exc c fs (outS sls ρ)
  | _ => .stuck
def callF (M : Mdl) (n : Nat) (F : Fn) (sls : List Sl) : Cr :=
  if decide (sls.length = F.np) && sls.all parOk then endF sls ((ev M F.N n).ss F.sc F.body (sls ++ List.replicate (F.N.length - F.np) .un)) else .stuck

theorem outS_get : ∀ {sls : List Sl} {ρ : Ro} {i : Nat}, (outS sls ρ)[i]? = match sls[i]? with
    | some (.ow m d) => (match ρ[i]? with | some s => some s | none => some (.ow m d))
    | o => o
  | [], ρ, i => by simp [outS]
  | s :: sls, ρ, 0 => by
    cases s <;> cases ρ <;> simp [outS]
  | s :: sls, [], i + 1 => by
    have ih := outS_get (sls := sls) (ρ := []) (i := i)
    cases s <;> simpa [outS] using ih
  | s :: sls, t :: ρ, i + 1 => by
    have ih := outS_get (sls := sls) (ρ := ρ) (i := i)
    cases s <;> simpa [outS] using ih
theorem outS_len : ∀ {sls : List Sl} {ρ : Ro}, (outS sls ρ).length = sls.length
  | [], _ => rfl
  | s :: sls, [] => by cases s <;> simp [outS, outS_len (sls := sls) (ρ := [])]
  | s :: sls, t :: ρ => by cases s <;> simp [outS, outS_len (sls := sls) (ρ := ρ)]

section
variable {K : PySem.W.Frag} {G H G' H' : Hp} {σ' : L2.St} {ρ' : Ro} {vs : List V} {sls : List Sl} {n : Nat}
theorem start_rep (R : Rep K G H (vs.map some) sls) : Rep K G H (vs.map some ++ List.replicate n none) (sls ++ List.replicate n .un) := by
  have hl : vs.length = sls.length := by have := R.len; simpa using this
  have getσ : ∀ i, i < sls.length → (vs.map some ++ List.replicate n none)[i]? = (vs.map some)[i]? := fun i h => List.getElem?_append_left (by simpa [hl] using h)
  have getρ : ∀ i, i < sls.length → (sls ++ List.replicate n Sl.un)[i]? = sls[i]? := fun i h => List.getElem?_append_left h
  have owAt : ∀ i a, OwAt (vs.map some ++ List.replicate n none) (sls ++ List.replicate n .un) i a → OwAt (vs.map some) sls i a := fun i a ⟨m, d, e1, e2⟩ => by
    rcases Nat.lt_or_ge i sls.length with h | h
    · rw [getρ i h] at e1
      rw [getσ i h] at e2
      exact ⟨m, d, e1, e2⟩
    · rw [List.getElem?_append_right h, List.getElem?_replicate] at e1
      split at e1 <;> cases e1
  refine ⟨R.ex, by simp [hl], fun i s e => ?_, fun i j a o1 o2 => R.dj i j a (owAt i a o1) (owAt j a o2)⟩
  rcases Nat.lt_or_ge i sls.length with h | h
  · rw [getρ i h] at e
    rw [getσ i h]
    exact R.sl i s e
  · rw [List.getElem?_append_right h, List.getElem?_replicate] at e
    split at e
    · rename_i hlt
      cases e
      show (vs.map some ++ List.replicate n none)[i]? = some none
      rw [List.getElem?_append_right (by simpa [hl] using h), List.getElem?_replicate]
      rw [if_pos (by simpa [hl] using hlt)]
    · cases e
/-- behind the body: the caller's view -/
theorem end_go (R : Rep K G H (vs.map some) sls) (hp : sls.all parOk = true) (g : Go (vs.map some ++ List.replicate n none) (sls ++ List.replicate n .un) G H σ' ρ' G' H') (R' : Rep K G' H' σ' ρ') :
    Go (vs.map some) sls G H (vs.map some) (outS sls ρ') G' H' ∧ Rep K G' H' (vs.map some) (outS sls ρ') ∧ ∀ i a, OwAt (vs.map some) (outS sls ρ') i a → OwAt σ' ρ' i a := by
  have hl : vs.length = sls.length := by have := R.len; simpa using this
  have getσ : ∀ i, i < sls.length → (vs.map some ++ List.replicate n none)[i]? = (vs.map some)[i]? := fun i h => List.getElem?_append_left (by simpa [hl] using h)
  have getρ : ∀ i, i < sls.length → (sls ++ List.replicate n Sl.un)[i]? = sls[i]? := fun i h => List.getElem?_append_left h
  have moS : ∀ a, Mo (vs.map some ++ List.replicate n none) (sls ++ List.replicate n .un) a → Mo (vs.map some) sls a := fun a ⟨i, m, d, hm, e1, e2⟩ => by
    rcases Nat.lt_or_ge i sls.length with h | h
    · rw [getρ i h] at e1
      rw [getσ i h] at e2
      exact ⟨i, m, d, hm, e1, e2⟩
    · rw [List.getElem?_append_right h, List.getElem?_replicate] at e1
      split at e1 <;> cases e1
  -- a slot behind the body
  have slot : ∀ {i : Nat} {s : Sl}, (outS sls ρ')[i]? = some s → (∃ m d, sls[i]? = some (.ow m d) ∧ pinned (.ow m d) = true ∧ ρ'[i]? = some s ∧ σ'[i]? = (vs.map some)[i]? ∧ PinTo (.ow m d) s) ∨ (∃ d, s = .fz d ∧ sls[i]? = some (.fz d)) := fun {i s} e => by
    rw [outS_get] at e
    cases q : sls[i]? with
    | none => rw [q] at e; cases e
    | some t =>
      have hi : i < sls.length := lt_get q
      have ht : parOk t = true := List.all_eq_true.mp hp t (List.mem_of_getElem? q)
      rw [q] at e
      cases t with
      | fz d => cases e; exact .inr ⟨d, rfl, rfl⟩
      | ow m d =>
        have pn : pinned (.ow m d) = true := by
          cases m with
          | own => cases ht
          | par => rfl
          | lck => rfl
        obtain ⟨z1, s', z2, z3⟩ := g.pin i _ (by rw [getρ i hi]; exact q) pn
        simp only [z2] at e
        cases e
        exact .inl ⟨m, d, rfl, pn, z2, by rw [z1, getσ i hi], z3⟩
      | un => cases ht
      | pz d => cases ht
  have owAt : ∀ i a, OwAt (vs.map some) (outS sls ρ') i a → OwAt σ' ρ' i a := fun i a ⟨m, d, e1, e2⟩ => by
    rcases slot e1 with ⟨_, _, _, _, z1, z2, _⟩ | ⟨_, z, _⟩
    · exact ⟨m, d, z1, by rw [z2]; exact e2⟩
    · cases z
  refine ⟨⟨g.g, fun a o e m => g.keep a o e fun z => m (moS a z), fun a o e z m => g.fr a o e z fun y => m (moS a y), fun a mo => ?_, fun j s e p => ⟨rfl, ?_⟩, g.there⟩, ⟨R'.ex, by rw [outS_len]; simpa using hl, fun i s e => ?_, fun i j a o1 o2 => R'.dj i j a (owAt i a o1) (owAt j a o2)⟩, owAt⟩
  · obtain ⟨i, m, d, hm, e1, e2⟩ := mo
    rcases slot e1 with ⟨_, _, _, _, z1, z2, _⟩ | ⟨_, z, _⟩
    · exact (g.own a ⟨i, m, d, hm, z1, by rw [z2]; exact e2⟩).imp (moS a) id
    · cases z
  · have hi : j < (outS sls ρ').length := by rw [outS_len]; exact lt_get e
    refine ⟨_, List.getElem?_eq_getElem hi, ?_⟩
    rcases slot (List.getElem?_eq_getElem hi) with ⟨m, d, z0, _, z1, z2, z3⟩ | ⟨d, z, z0⟩
    · rw [e] at z0
      cases z0
      exact z3
    · rw [e] at z0
      cases z0
      cases p
  · rcases slot e with ⟨m, d, z0, _, z1, z2, z3⟩ | ⟨d, rfl, z0⟩
    · rw [← z2]
      exact R'.sl i s z1
    · obtain ⟨v, q1, q2⟩ := R.sl i _ z0
      exact ⟨v, q1, q2.mono g.g⟩
end

section
variable {M : Mdl} {k n : Nat} {X : Cx} {W : WX} {G H : Hp} {vs : List V} {sls : List Sl} {F : Fn} {Q : VK} {E : XK}
theorem fn_body (O : XOk M F.N F.sc k X (fun cls d _ H => E cls d H)) (Fm : Frm X) (hl : vs.length = F.np) (R : Rep X.K G H (vs.map some) sls) (h : PostC X.mg X.K (vs.map some) sls G H (callF M n F sls) Q E) :
    WSs X F.body { nx := fun _ H' => Q .non H', rt := Q } (L2.start F.N vs) H := by
  unfold callF at h
  split at h
  case isFalse => exact h.elim
  rename_i c
  obtain ⟨c1, hp⟩ := Bool.and_eq_true_iff.mp c
  have R0 : Rep X.K G H (L2.start F.N vs) (sls ++ List.replicate (F.N.length - F.np) .un) := by
    unfold L2.start
    rw [hl]
    exact start_rep R
  refine (snd_ev (M := M) (N := F.N) n).ss O Fm R0 ?_
  have fin : ∀ {σ' : L2.St} {ρ' : Ro} {G' H' : Hp}, Go (L2.start F.N vs) (sls ++ List.replicate (F.N.length - F.np) .un) G H σ' ρ' G' H' → Rep X.K G' H' σ' ρ' →
      Go (vs.map some) sls G H (vs.map some) (outS sls ρ') G' H' ∧ Rep X.K G' H' (vs.map some) (outS sls ρ') := fun {σ' ρ' G' H'} g R' => by
    unfold L2.start at g
    rw [hl] at g
    obtain ⟨q1, q2, _⟩ := end_go R hp g R'
    exact ⟨q1, q2⟩
  cases er : (ev M F.N n).ss F.sc F.body (sls ++ List.replicate (F.N.length - F.np) .un) with
  | stuck => rw [er] at h; exact h
  | brk ρ' => rw [er] at h; exact (show False from h).elim
  | cnt ρ' => rw [er] at h; exact (show False from h).elim
  | next ρ' =>
    rw [er] at h
    intro σ' G' H' g R'
    obtain ⟨q1, q2⟩ := fin g R'
    exact h .non G' H' q1 q2 .non
  | exc c' fs ρ' =>
    rw [er] at h
    intro cls dd σ' G' H' g R' xi
    obtain ⟨q1, q2⟩ := fin g R'
    exact h cls dd G' H' q1 q2 xi
  | ret b ρ' =>
    rw [er] at h
    intro v σ' G' H' g R' dn nw
    cases b with
    | va d f =>
      obtain ⟨q1, q2⟩ := fin g R'
      refine h v G' H' q1 q2 ?_
      cases f with
      | false => exact dn
      | true =>
        obtain ⟨a, ea, c, _⟩ := dn
        exact ⟨a, ea, nw d a rfl ea, c⟩
    | «at» i =>
      have hv : σ'[i]? = some (some v) := dn
      simp only [endF] at h
      split at h
      · rename_i d e
        obtain ⟨q1, q2⟩ := fin g R'
        refine h v G' H' q1 q2 ?_
        obtain ⟨a, ea, c⟩ := R'.sl i _ e
        rw [hv] at ea
        cases ea
        refine ⟨a, rfl, ?_, c⟩
        rcases g.own a ⟨i, .own, d, (fun z => by cases z), e, hv⟩ with mo | z
        · -- a parameter's own list is not a local's
          exfalso
          obtain ⟨j, m, d0, hm, e1, e2⟩ := mo
          have hj : j < sls.length := by
            rcases Nat.lt_or_ge j sls.length with q | q
            · exact q
            · rw [List.getElem?_append_right q, List.getElem?_replicate] at e1
              split at e1 <;> cases e1
          have e1' : sls[j]? = some (.ow m d0) := by rw [← e1, List.getElem?_append_left hj]
          have ht : parOk (.ow m d0) = true := List.all_eq_true.mp hp _ (List.mem_of_getElem? e1')
          have hm' : m = .par := by
            cases m with
            | own => cases ht
            | par => rfl
            | lck => exact absurd rfl hm
          subst hm'
          obtain ⟨z1, s', z2, z3⟩ := g.pin j _ e1 rfl
          rw [e2] at z1
          rcases z3 with ⟨d2, z3⟩ | ⟨d2, z3⟩
          · subst z3
            have := R'.dj i j a ⟨.own, d, e, hv⟩ ⟨.par, d2, z2, z1⟩
            subst this
            rw [e] at z2
            cases z2
          · subst z3
            obtain ⟨a2, xs, ds, y1, _, y3, _⟩ := R'.sl j _ z2
            rw [z1] at y1
            cases y1
            rw [c.1] at y3
            cases y3
        · exact z
      · split at h
        · rename_i d ρ1 hw
          obtain ⟨G2, g2, _, R2, i2⟩ := whole_of R' Go.refl (Evo.refl _) (show Out X.K H' G' H' σ' ρ' v (.at i) from ⟨dn, fun _ _ z => by cases z⟩) hw
          obtain ⟨q1, q2⟩ := fin (g.trans g2) R2
          exact h v G2 H' q1 q2 i2
        · exact h.elim
end
section
variable {M M' : Mdl} {k n : Nat} {P : Program} {w : World} {K : PySem.W.Frag} {mg : Str → Option Value} {base : Heap} {x qual : Str} {params : Arguments} {F : Fn} {dvs : List V} {kws : List (Str × V)} {f : Addr} {fd : FuncData} {ps : List Str}
theorem fn_ok (D : FunD K x qual params F.body F.sc dvs kws f fd) (S : FnScope F.N ps F.sc) (hps : ps.length = F.np) (md : MdOk M k P w K mg base) (hc : ∀ sls, M'.call x sls = callF M n F sls) :
    FnOk P w K mg base (L2.CX P w) (k + 1) f fd ps (spF mg K M' x ps.length) := by
  refine D.ok S (fun vs H Q E ⟨_, _, hl, _⟩ => hl) fun cdv A outer s H vs Q E hr ⟨G, sls, hl, R, h⟩ => ⟨_, pss_wss, ?_⟩
  rw [hc] at h
  refine fn_body (X := cxOf (L2.CX P w) P w K mg base F.N qual F.sc f cdv A outer s H E) (k := k) ⟨rfl, S.nd, fun _ => .inl rfl, fun _ _ => rfl, S.kind, rfl, hr, takes_of rfl rfl rfl rfl, passes_of rfl, md⟩ ⟨rfl, rfl⟩ (hl.trans hps) R h
end
end VE
end

section
set_option Elab.async false
set_option linter.all false
set_option maxRecDepth 100000
set_option maxHeartbeats 1000000
/-! GF1: for in a generator's body. -/
namespace PySem
open Sem (wp)
section
variable {prog : Program} {w : World} {A : Around} {R : GenEnd} {Y : Protocol} {n : Nat} {s₀ : Shared} {c : Code} {fs : List Frame} {s : Shared} {env : Env}
  {K : Flow → Sem Fin} {H : Value → Sem Fin} {gd : Bool → Bool} {lv : List Value → List Value}
theorem seg_For {target iter : Expr} {body orelse : List Stmt} {pos : Pos}
    (h : wpAny (model prog w) (A.over c fs) (eval iter env) (fun x s₁ => wpAny (model prog w) (A.over c fs) (pyIter x) (fun it s₂ =>
      ∀ p, Seg (model prog w) A R Y n s₀ (.forLoop target it body orelse env) ((model prog w).den (.forLoop target it body orelse env))
      (.ret (fun r => ((match r with | .ok f => (.pure f : Sem Flow) | .error e => .raise e).onRaise fun (x : Value) => do
        if (← field x 1) == Value.none then unsupported "frame.own-activation:exception-without-traceback"
        setFlight x env.frame).wrap K H gd lv) none (gd false) (lv []) c p [] :: fs) s₂) (fun x s' => Seg (model prog w) A R Y n s₀ c (H x) fs s') s₁) (fun x s' => Seg (model prog w) A R Y n s₀ c (H x) fs s') s)
    (hs : ∀ x, foldedSetIterable iter env x = pure x := by intro _; rfl) :
    Seg (model prog w) A R Y n s₀ c ((exec (.For target iter body orelse pos) env).wrap K H gd lv) fs s := by
  rw [exec_For]
  refine seg_bind_wrap (wpAny_standAt (seg_bind_wrap (wpAny_mono h (fun x s₁ h₁ => seg_bind_wrap (wpAny_of_eq (hs x) (seg_bind_wrap (wpAny_standAt (seg_bind_wrap (wpAny_holding
    (wpAny_mono h₁ (fun it s₂ h₂ => seg_call h₂) fun _ _ h' => h'))))))) fun _ _ h' => h')))
theorem seg_forLoop {target : Expr} {it : Value} {body orelse : List Stmt}
    (h : wpAny (model prog w) (A.over (.forLoop target it body orelse env) fs) (pyNext it) (fun r s₁ => match r with
        | none => Seg (model prog w) A R Y n s₀ (.forLoop target it body orelse env) (.pure (.again (.block orelse env))) fs s₁
        | some v => wpAny (model prog w) (A.over (.forLoop target it body orelse env) fs) (letOwnedTupleGo target it v) (fun _ s₁' =>
            wpAny (model prog w) (A.over (.forLoop target it body orelse env) fs) (assign target env v) (fun _ s₂ =>
              Seg (model prog w) A R Y n s₀ (.forLoop target it body orelse env) ((execs body env).wrap (fun f => match f with
                | .next | .cont => .pure (.again (.forLoop target it body orelse env))
                | .brk => .pure (.done .next)
                | .ret v => .pure (.done (.ret v))) (fun e => (do noteFrame e env; theTreesLotGoes e : Sem Unit).wrap (fun _ => .raise e) .raise id id) id id) fs s₂)
              (fun x s' => Seg (model prog w) A R Y n s₀ (.forLoop target it body orelse env) ((do noteFrame x env; theTreesLotGoes x : Sem Unit).wrap (fun _ => .raise x) .raise id id) fs s') s₁')
            (fun x s' => Seg (model prog w) A R Y n s₀ (.forLoop target it body orelse env) ((do noteFrame x env; theTreesLotGoes x : Sem Unit).wrap (fun _ => .raise x) .raise id id) fs s') s₁)
      (fun x s' => Seg (model prog w) A R Y n s₀ (.forLoop target it body orelse env) ((do noteFrame x env; theTreesLotGoes x : Sem Unit).wrap (fun _ => .raise x) .raise id id) fs s') s) :
    Seg (model prog w) A R Y n s₀ (.forLoop target it body orelse env) ((model prog w).den (.forLoop target it body orelse env)) fs s := by
  show Seg _ A R Y n s₀ _ ((forTurn target it body orelse env).onRaise (fun x => do noteFrame x env; theTreesLotGoes x)) fs s
  have conv : ∀ {x : Value} {s' : Shared}, Seg (model prog w) A R Y n s₀ (.forLoop target it body orelse env) ((do noteFrame x env; theTreesLotGoes x : Sem Unit).wrap (fun _ => .raise x) .raise id id) fs s' →
      Seg (model prog w) A R Y n s₀ (.forLoop target it body orelse env) ((do noteFrame x env; theTreesLotGoes x : Sem Unit).bind fun _ => .raise x) fs s' := fun {x s'} hx => by
    rw [Sem.bind_eq_wrap]
    exact hx
  unfold forTurn
  rw [Sem.onRaise_eq_wrap]
  refine seg_bind_wrap (wpAny_standAt (seg_bind_wrap (wpAny_onRaise (wpAny_mono h (fun r s₁ h₁ => ?_) fun x s' hx => wpAny_standAt (conv hx)))))
  cases r with
  | none => exact h₁
  | some v =>
    refine seg_bind_wrap (wpAny_mono h₁ (fun _ s₁' h₁' => ?_) fun x s' hx => conv hx)
    refine seg_bind_wrap (wpAny_mono h₁' (fun _ s₂ h₂ => ?_) fun x s' hx => conv hx)
    rw [Sem.bind_eq_wrap', Sem.wrap_wrap]
    rw [Sem.wrap_congr (execs body env) _ _ (K' := fun f => match f with
            | .next | .cont => .pure (.again (.forLoop target it body orelse env))
            | .brk => .pure (.done .next)
            | .ret v => .pure (.done (.ret v))) (H' := (fun e => (do noteFrame e env; theTreesLotGoes e : Sem Unit).wrap (fun _ => .raise e) .raise id id))
        (fun f => by cases f <;> rfl)
        (fun e => by first | exact Sem.bind_eq_wrap _ _ | (show (do noteFrame e env; theTreesLotGoes e : Sem Unit).bind (fun _ => .raise e) = _; rw [Sem.bind_eq_wrap]))]
    exact h₂
end
end PySem
end

section
set_option Elab.async false
set_option linter.all false
set_option maxRecDepth 100000
set_option maxHeartbeats 1000000
/-! GF2: for in a generator's body, over the layer. -/
namespace L2
open PySem PySem.Spec PyProof.Rows GenW
def tGFor (wi : TI) (g : TG) (tb : TGn) : TGn := fun D ys σ H => wi σ H fun J H2 => ∃ W : Nat → Nat → List V → St → Hp → Prop, (∃ m, W 0 m ys σ H2) ∧ ∀ i m ys σ H, W i m ys σ H →
  (J.stop i H ∧ D.nx ys σ H) ∨ (J.go i H ∧ ∃ N : List V → St → Hp → Prop, (∀ ys' σ' H', N ys' σ' H' → ∃ m', m' < m ∧ W (i + 1) m' ys' σ' H') ∧
    ∀ x H', J.yld i H x H' → g x σ H' fun σ2 H2 => tb { D with nx := N, ct := N, bk := D.nx } ys σ2 H2)
section
variable {X : Cx} {tg iter : Expr} {body : List Stmt} {pos : Pos} {wi : TI} {g : TG} {tb : TGn}
theorem gs_for (hp : PassesOwn (model X.prog X.w) X.A X.env X.xe) (hc : X.calm = true) (hi : PI X tg iter wi) (hg : PG X tg g) (hb : GSs X body tb)
    (hs : ∀ x, foldedSetIterable iter X.env x = pure x := by intro _; rfl) : GS X (.For tg iter body [] pos) (tGFor wi g tb) := by
  refine ⟨fun A S ip R n ys s₀ c fs K J gd lv s σ H D gc hn k hI ht => ?_⟩
  obtain ⟨acc, cc, r, I⟩ := hI
  refine seg_For ?_ hs
  rw [gc.over]
  refine wpAny_mono (hi.run _ s σ H _ I ht) (fun v s1 h1 => wpAny_mono h1 (fun itv s2 h2 p => ?_) fun x s' hx => k.exc n s₀ x s' hx) fun x s' hx => k.exc n s₀ x s' hx
  obtain ⟨it, fp, tn, JJ, H2, e, I2, T, st2, f2, W, ⟨m0, w0⟩, turn⟩ := h2
  subst e
  have stat : ∀ {H' : Hp} {acc' : Array Value} {cc' : Nat}, (∀ b ∈ fp, H' b = none) → ∀ b ∈ fp, FpOk X ((S, lstObj acc' cc') :: ip) H' b := fun {H' acc' cc'} hn' b hb' => by
    obtain ⟨_, q2, q3, q4, q5, q6⟩ := f2 b hb'
    refine ⟨hn' b hb', q2, q3, q4, q5, fun p hp' => ?_⟩
    rcases List.mem_append.mp hp' with y | y
    · exact q6 p (List.mem_append_left _ y)
    · rcases List.mem_cons.mp y with y | y
      · rw [y]
        exact q6 (S, lstObj acc cc) (List.mem_append_right _ List.mem_cons_self)
      · exact q6 p (List.mem_append_right _ (List.mem_cons_of_mem _ y))
  have gl := fun (kk : Result → Sem PySem.Fin) => gc_loop (k := kk) (c' := .forLoop tg (.ref it) body [] X.env) (l := lv []) (kp := []) (p := p) gc rfl rfl
  have loop : ∀ (m i n : Nat) (ys : List V) (s₀ s : Shared) (σ : St) (H : Hp), n + ys.length = sizeLine → W i m ys σ H → GI X S ip ys σ H s → tn i s.heap → (∀ b ∈ fp, H b = none) →
      Seg (model X.prog X.w) A R (GY X S) n s₀ (.forLoop tg (.ref it) body [] X.env) ((model X.prog X.w).den (.forLoop tg (.ref it) body [] X.env))
        (.ret (fun r => ((match r with | .ok f => (.pure f : Sem Flow) | .error e => .raise e).onRaise (cameBack X.env)).wrap K J gd lv) none (gd false) (lv []) c p [] :: fs) s := by
    intro m
    induction m using Nat.strongRecOn with
    | ind m ih =>
      intro i n ys s₀ s σ H hn w hI st fr
      have ee : ∀ (n : Nat) (s₀ : Shared) (x : Value) (s' : Shared), X.xe x s' → Seg (model X.prog X.w) A R (GY X S) n s₀ (.forLoop tg (.ref it) body [] X.env)
          ((do noteFrame x X.env; theTreesLotGoes x : Sem Unit).wrap (fun _ => .raise x) .raise id id)
          (.ret (fun r => ((match r with | .ok f => (.pure f : Sem Flow) | .error e => .raise e).onRaise (cameBack X.env)).wrap K J gd lv) none (gd false) (lv []) c p [] :: fs) s' := fun n s₀ x s' hx => by
        refine seg_wrap ?_
        rw [(gl _).over]
        refine wpAny_bind (wpAny_mono (hp x s' hx) (fun _ s'' hcb => wpAny_theTreesLotGoes ?_) fun y s'' hcb => ?_)
        · exact seg_leaf (.error x) (seg_cameBack gc k hcb)
        · exact seg_leaf (.error y) (seg_cameBack gc k hcb)
      refine seg_forLoop ?_
      rw [(gl _).over]
      obtain ⟨acc1, cc1, r1, I1⟩ := hI
      rcases turn i m ys σ H w with ⟨stop, qn⟩ | ⟨go, N, hN, step⟩
      · refine wpAny_mono (T.done X rfl rfl rfl hc i _ s σ H X.xe I1 (stat fr) st stop) (fun r s4 hr => ?_) fun x s' hx => ee n s₀ x s' hx
        obtain ⟨rfl, I4⟩ := hr
        refine seg_again rfl ?_
        exact seg_leaf (.ok .next) (k.ok n ys s₀ s4 .next hn ⟨σ, H, ⟨acc1, cc1, r1, I4⟩, qn⟩)
      · refine wpAny_mono (T.item X rfl rfl rfl hc i _ s σ H X.xe I1 (stat fr) st go) (fun r s4 hr => ?_) fun x s' hx => ee n s₀ x s' hx
        obtain ⟨u, rfl, h4⟩ := hr
        refine wpAny_mono h4 (fun _ s5 h5 => ?_) fun x s' hx => ee n s₀ x s' hx
        obtain ⟨x, H5, I5, r5, y5, st5, fr5⟩ := h5
        have I5' := I5.pinned (stat fr5) (T.obj _ _ st5)
        refine wpAny_mono (hg.run _ s5 σ H5 x u _ I5' r5 (step x H5 y5)) (fun _ s6 h6 => ?_) fun x s' hx => ee n s₀ x s' hx
        obtain ⟨σ6, H6, I6, q6⟩ := h6
        have hip : ∀ p ∈ ip ++ pinsAt fp s5.heap, p.1 ≠ S := fun q hq => by
          rcases List.mem_append.mp hq with y | y
          · exact gc.ip q y
          · obtain ⟨hbq, _⟩ := of_pinsAt y
            obtain ⟨_, _, _, _, _, q6'⟩ := f2 q.1 hbq
            exact Ne.symm (q6' (S, lstObj acc cc) (List.mem_append_right _ List.mem_cons_self))
        have g2 := fun (kk : Result → Sem PySem.Fin) => (show GC X S (ip ++ pinsAt fp s5.heap) A (.forLoop tg (.ref it) body [] X.env) (.ret kk none (gd false) (lv []) c p [] :: fs) id from { gl kk with ip := hip })
        have again : ∀ {n' : Nat} {ys' : List V} {s₀' s7 : Shared} {σ7 : St} {H7 : Hp}, n' + ys'.length = sizeLine → GI X S (ip ++ pinsAt fp s5.heap) ys' σ7 H7 s7 → N ys' σ7 H7 →
            Seg (model X.prog X.w) A R (GY X S) n' s₀' (.forLoop tg (.ref it) body [] X.env) (.pure (.again (.forLoop tg (.ref it) body [] X.env)))
              (.ret (fun r => ((match r with | .ok f => (.pure f : Sem Flow) | .error e => .raise e).onRaise (cameBack X.env)).wrap K J gd lv) none (gd false) (lv []) c p [] :: fs) s7 := fun {n' ys' s₀' s7 σ7 H7} hn' G7 n7 => by
          obtain ⟨m', hm, w7⟩ := hN ys' σ7 H7 n7
          obtain ⟨acc7, cc7, r7, I7⟩ := G7
          refine seg_again rfl (ih m' hm (i + 1) n' ys' s₀' s7 σ7 H7 hn' w7 ⟨acc7, cc7, r7, I7.pins_of fun q hq => I7.pin q ?_⟩ (T.keep _ _ _ st5 fun b hb' o e => (I7.pin (b, o) ?_).1) fun b hb' => ?_)
          · rcases List.mem_cons.mp hq with y | y
            · rw [y]; exact List.mem_append_right _ List.mem_cons_self
            · exact List.mem_append_right _ (List.mem_cons_of_mem _ (List.mem_append_left _ y))
          · exact List.mem_append_right _ (List.mem_cons_of_mem _ (List.mem_append_right _ (mem_pinsAt hb' e)))
          · obtain ⟨o, e, d⟩ := T.obj _ _ st5 b hb'
            exact (I7.pin (b, o) (List.mem_append_right _ (List.mem_cons_of_mem _ (List.mem_append_right _ (mem_pinsAt hb' e))))).2.1
        have un : ∀ {ys' : List V} {s7 : Shared} {σ7 : St} {H7 : Hp}, GI X S (ip ++ pinsAt fp s5.heap) ys' σ7 H7 s7 → GI X S ip ys' σ7 H7 s7 := fun {ys' s7 σ7 H7} G7 => by
          obtain ⟨acc7, cc7, r7, I7⟩ := G7
          refine ⟨acc7, cc7, r7, I7.pins_of fun q hq => I7.pin q ?_⟩
          rcases List.mem_cons.mp hq with y | y
          · rw [y]; exact List.mem_append_right _ List.mem_cons_self
          · exact List.mem_append_right _ (List.mem_cons_of_mem _ (List.mem_append_left _ y))
        refine hb.run A S (ip ++ pinsAt fp s5.heap) R n ys s₀ _ _ _ _ id id s6 σ6 H6 { D with nx := N, ct := N, bk := D.nx } (g2 _) hn ⟨fun n' ys' s₀' s7 f hn' hs' => ?_, fun n' s₀' x s7 hx => ee n' s₀' x s7 hx⟩ ⟨acc1, cc1, r1, I6⟩ q6
        cases f with
        | next =>
          obtain ⟨σ7, H7, G7, n7⟩ := hs'
          exact again hn' G7 n7
        | cont =>
          obtain ⟨σ7, H7, G7, n7⟩ := hs'
          exact again hn' G7 n7
        | brk =>
          obtain ⟨σ7, H7, G7, n7⟩ := hs'
          exact seg_leaf (.ok .next) (k.ok n' ys' s₀' s7 .next hn' ⟨σ7, H7, un G7, n7⟩)
        | ret v =>
          obtain ⟨x7, σ7, H7, G7, r7, n7⟩ := hs'
          exact seg_leaf (.ok (.ret v)) (k.ok n' ys' s₀' s7 (.ret v) hn' ⟨x7, σ7, H7, un G7, r7, n7⟩)
  exact loop m0 0 n ys s₀ s2 σ H2 hn w0 ⟨acc, cc, r, I2⟩ st2 fun b hb' => (f2 b hb').1
end
end L2
end

section
set_option Elab.async false
set_option linter.all false
set_option maxRecDepth 100000
set_option maxHeartbeats 1000000
/-! VS2: generators. -/
namespace VE
open PySem PySem.Spec L2
/-- how a generator's statement ends: what is out -/
inductive Rg where
  | stuck | next (ys : List D) (ρ : Ro) | brk (ys : List D) (ρ : Ro) | cnt (ys : List D) (ρ : Ro)
def Rg.map (f : Ro → Ro) : Rg → Rg
  | .stuck => .stuck
  | .next ys ρ => .next ys (f ρ)
  | .brk ys ρ => .brk ys (f ρ)
  | .cnt ys ρ => .cnt ys (f ρ)
def loopG (asg : D → Ro → Option Ro) (body : List D → Ro → Rg) : List D → List D → Ro → Rg
  | [], ys, ρ => .next ys ρ
  | x :: xs, ys, ρ => (match asg x ρ with
    | none => .stuck
    | some ρ1 => (match body ys ρ1 with
      | .next ys2 ρ2 => loopG asg body xs ys2 ρ2
      | .cnt ys2 ρ2 => loopG asg body xs ys2 ρ2
      | .brk ys2 ρ2 => .next ys2 ρ2
      | .stuck => .stuck))
section
variable (M : Mdl) (N : List Str) (E : Ev)
def oneG (rec : Scope → List Stmt → List D → Ro → Rg) (sc : Scope) (st : Stmt) (ys : List D) (ρ : Ro) : Rg := match st with
  | .Expr (.Yield (some e) _) _ => (match E.e sc e ρ with
    | .ok b ρ1 => (match whole b ρ1 with
      | .ok d ρ2 => if ys.length < sizeLine then Rg.next (ys ++ [d]) ρ2 else .stuck
      | _ => .stuck)
    | _ => .stuck)
  | .For tg it body [] _ => if tgOk N sc tg && !isSetE it then (match iterS M E sc tg it ρ with
    | .ok w ρ1 => (loopG (asgT N sc tg) (rec sc body) w.1 ys (lockAll w.2 ρ1)).map (unlockAll w.2)
    | _ => .stuck) else .stuck
  | st => (match E.s sc st ρ with
    | .next ρ1 => .next ys ρ1
    | .brk ρ1 => .brk ys ρ1
    | .cnt ρ1 => .cnt ys ρ1
    | _ => .stuck)
def genS : Nat → Scope → List Stmt → List D → Ro → Rg
  | 0, _, _, _, _ => .stuck
  | _ + 1, _, [], ys, ρ => .next ys ρ
  | n + 1, sc, st :: rest, ys, ρ => (match oneG M N E (genS n) sc st ys ρ with
    | .next ys1 ρ1 => genS n sc rest ys1 ρ1
    | r => r)
end
/-! ### soundness -/
def PostG (K : PySem.W.Frag) (σ : L2.St) (ρ : Ro) (G H : Hp) (r : Rg) (D : GEnds) : Prop := match r with
  | .stuck => False
  | .next ys ρ' => ∀ us σ' G' H', Go σ ρ G H σ' ρ' G' H' → Rep K G' H' σ' ρ' → IsL K G' us ys → D.nx us σ' H'
  | .brk ys ρ' => ∀ us σ' G' H', Go σ ρ G H σ' ρ' G' H' → Rep K G' H' σ' ρ' → IsL K G' us ys → D.bk us σ' H'
  | .cnt ys ρ' => ∀ us σ' G' H', Go σ ρ G H σ' ρ' G' H' → Rep K G' H' σ' ρ' → IsL K G' us ys → D.ct us σ' H'
theorem PostG.later {K : PySem.W.Frag} {σ σ2 : L2.St} {ρ ρ2 : Ro} {G H G2 H2 : Hp} {r : Rg} {D : GEnds} (h : PostG K σ ρ G H r D) (g : Go σ ρ G H σ2 ρ2 G2 H2) : PostG K σ2 ρ2 G2 H2 r D := by
  cases r with
  | stuck => exact h
  | next ys ρ' => exact fun us σ' G' H' g' R' i => h us σ' G' H' (g.trans g') R' i
  | brk ys ρ' => exact fun us σ' G' H' g' R' i => h us σ' G' H' (g.trans g') R' i
  | cnt ys ρ' => exact fun us σ' G' H' g' R' i => h us σ' G' H' (g.trans g') R' i
def WG (X : Cx) (st : Stmt) (D : GEnds) (us : List V) (σ : L2.St) (H : Hp) : Prop := ∃ t, GS X st t ∧ t D us σ H
def WGs (X : Cx) (st : List Stmt) (D : GEnds) (us : List V) (σ : L2.St) (H : Hp) : Prop := ∃ t, GSs X st t ∧ t D us σ H
theorem gs_wg {X : Cx} {st : Stmt} : GS X st (WG X st) := ⟨fun A S ip R n ys s₀ c fs K J gd lv s σ H D g hn k hI ⟨_, ht, h⟩ => ht.run A S ip R n ys s₀ c fs K J gd lv s σ H D g hn k hI h⟩
theorem gss_wgs {X : Cx} {st : List Stmt} : GSs X st (WGs X st) := ⟨fun A S ip R n ys s₀ c fs K J gd lv s σ H D g hn k hI ⟨_, ht, h⟩ => ht.run A S ip R n ys s₀ c fs K J gd lv s σ H D g hn k hI h⟩
theorem PostG.unlock {K : PySem.W.Frag} {σ : L2.St} {ρ : Ro} {G H : Hp} {r : Rg} {D' : GEnds} {lk : List (Nat × Md)} (hl : LkOk ρ lk) (h : PostG K σ ρ G H (r.map (unlockAll lk)) D') : PostG K σ (lockAll lk ρ) G H r D' := by
  cases r with
  | stuck => exact h
  | next ys ρ' => exact fun us σ' G' H' g R i => let ⟨g2, R2⟩ := unlock_ok hl g R; h us σ' G' H' g2 R2 i
  | brk ys ρ' => exact fun us σ' G' H' g R i => let ⟨g2, R2⟩ := unlock_ok hl g R; h us σ' G' H' g2 R2 i
  | cnt ys ρ' => exact fun us σ' G' H' g R i => let ⟨g2, R2⟩ := unlock_ok hl g R; h us σ' G' H' g2 R2 i
/-- a for of a generator over such a walk -/
theorem gfor_ok {K : PySem.W.Frag} {asg : D → Ro → Option Ro} {body : List D → Ro → Rg} {J : It} {g : TG} {tb : TGn} {D' : GEnds} {σ : L2.St} {ρl : Ro} {G H1 : Hp} {ds ys : List D} {us : List V}
    (hg : ∀ {v : V} {d : D} {σ : L2.St} {ρ ρ' : Ro} {G H : Hp} {Q : L2.St → Hp → Prop}, asg d ρ = some ρ' → Is K G v d → Rep K G H σ ρ → (∀ σ', Go σ ρ G H σ' ρ' G H → Rep K G H σ' ρ' → Q σ' H) → g v σ H Q)
    (hb : ∀ {σ : L2.St} {ρ : Ro} {G H : Hp} {D' : GEnds} {ys : List D} {us : List V}, Rep K G H σ ρ → IsL K G us ys → PostG K σ ρ G H (body ys ρ) D' → tb D' us σ H)
    (R : Rep K G H1 σ ρl) (iu : IsL K G us ys) (wk : WlkOk K σ ρl G H1 J ds) (h : PostG K σ ρl G H1 (loopG asg body ds ys ρl) D') :
    ∃ W' : Nat → Nat → List V → L2.St → Hp → Prop, (∃ m, W' 0 m us σ H1) ∧ ∀ i m us σ H, W' i m us σ H →
      (J.stop i H ∧ D'.nx us σ H) ∨ (J.go i H ∧ ∃ N : List V → L2.St → Hp → Prop, (∀ us' σ' H', N us' σ' H' → ∃ m', m' < m ∧ W' (i + 1) m' us' σ' H') ∧
        ∀ x H', J.yld i H x H' → g x σ H' fun σ2 H2 => tb { D' with nx := N, ct := N, bk := D'.nx } us σ2 H2) := by
  obtain ⟨Gp, Y, w, hGp, hY⟩ := wk
  let Pv : Nat → List V → L2.St → Hp → Prop := fun i us' σ' H' => ∃ ρ' G' ys', Go σ ρl G H1 σ' ρ' G' H' ∧ Rep K G' H' σ' ρ' ∧ IsL K G' us' ys' ∧ PostG K σ' ρ' G' H' (loopG asg body (ds.drop i) ys' ρ') D'
  refine ⟨fun i m us σ H => m = ds.length - i ∧ i ≤ ds.length ∧ Pv i us σ H, ⟨ds.length, by simp, Nat.zero_le _, ρl, G, ys, Go.refl, R, iu, h⟩, ?_⟩
  rintro i m us' σ' Hc ⟨rfl, hi, ρ', G', ys', g1, R1, iu1, h1⟩
  by_cases hlt : i < ds.length
  · refine .inr ⟨w.goes i Hc hlt (hGp σ' ρ' G' Hc g1 R1), Pv (i + 1), fun us2 σ2 H2 p => ⟨ds.length - (i + 1), by omega, rfl, hlt, p⟩, fun x Hc' y => ?_⟩
    obtain ⟨G2, d, e1, i2, g2, R2⟩ := hY i Hc x Hc' (w.yields i Hc x Hc' hlt (hGp σ' ρ' G' Hc g1 R1) y) σ' ρ' G' g1 R1
    have e2 : ds.drop i = d :: ds.drop (i + 1) := by
      rw [List.getElem?_eq_some_iff] at e1
      obtain ⟨hh, e1⟩ := e1
      rw [← e1]
      exact List.drop_eq_getElem_cons hh
    rw [e2] at h1
    simp only [loopG] at h1
    cases ea : asg d ρ' with
    | none => rw [ea] at h1; exact h1.elim
    | some ρ2 =>
      rw [ea] at h1
      refine hg ea i2 R2 fun σ2 g3 R3 => hb R3 ((iu1.mono g2.g).mono g3.g) ?_
      have g12 := (g1.trans g2).trans g3
      have h2 := PostG.later (r := (match body ys' ρ2 with
        | .next ys2 ρ2 => loopG asg body (ds.drop (i + 1)) ys2 ρ2
        | .cnt ys2 ρ2 => loopG asg body (ds.drop (i + 1)) ys2 ρ2
        | .brk ys2 ρ2 => .next ys2 ρ2
        | .stuck => .stuck)) h1 (g2.trans g3)
      cases eb : body ys' ρ2 with
      | stuck => rw [eb] at h2; exact h2
      | next ys3 ρ3 =>
        rw [eb] at h2
        exact fun us3 σ3 G3 H3 g4 R4 i4 => ⟨ρ3, G3, ys3, g12.trans g4, R4, i4, PostG.later h2 g4⟩
      | cnt ys3 ρ3 =>
        rw [eb] at h2
        exact fun us3 σ3 G3 H3 g4 R4 i4 => ⟨ρ3, G3, ys3, g12.trans g4, R4, i4, PostG.later h2 g4⟩
      | brk ys3 ρ3 =>
        rw [eb] at h2
        exact fun us3 σ3 G3 H3 g4 R4 i4 => h2 us3 σ3 G3 H3 g4 R4 i4
  · have e : i = ds.length := by omega
    subst e
    rw [List.drop_length] at h1
    exact .inl ⟨w.stops Hc (hGp σ' ρ' G' Hc g1 R1), h1 us' σ' G' Hc Go.refl R1 iu1⟩
section
variable {M : Mdl} {N : List Str} {E : Ev} {k : Nat} {X : Cx} {W : WX} (S : Snd M N E)
include S
theorem snd_oneG (hco : X.env.scope.isCoroutine = false) (hia : interactive X.env = false) {rec : Scope → List Stmt → List D → Ro → Rg} {sc : Scope} (O : XOk M N sc k X W) (Fm : Frm X)
    (hrec : ∀ {st : List Stmt} {ys : List D} {us : List V} {σ : L2.St} {ρ : Ro} {G H : Hp} {D' : GEnds}, Rep X.K G H σ ρ → IsL X.K G us ys → PostG X.K σ ρ G H (rec sc st ys ρ) D' → WGs X st D' us σ H)
    {st : Stmt} {ys : List D} {us : List V} {σ : L2.St} {ρ : Ro} {G H : Hp} {D' : GEnds} (R : Rep X.K G H σ ρ) (iu : IsL X.K G us ys) (h : PostG X.K σ ρ G H (oneG M N E rec sc st ys ρ) D') : WG X st D' us σ H := by
  have plain : PostG X.K σ ρ G H (match E.s sc st ρ with
        | .next ρ1 => Rg.next ys ρ1
        | .brk ρ1 => .brk ys ρ1
        | .cnt ρ1 => .cnt ys ρ1
        | _ => .stuck) D' → WG X st D' us σ H := fun h => by
    refine ⟨_, gs_ps ps_ws, ?_⟩
    refine S.s O Fm R ?_
    cases e : E.s sc st ρ with
    | stuck => rw [e] at h; exact h
    | ret b ρ1 => rw [e] at h; exact h.elim
    | exc c fs ρ1 => rw [e] at h; exact h.elim
    | next ρ1 =>
      rw [e] at h
      exact fun σ1 G1 H1 g1 R1 => h us σ1 G1 H1 g1 R1 (iu.mono g1.g)
    | brk ρ1 =>
      rw [e] at h
      exact fun σ1 G1 H1 g1 R1 => h us σ1 G1 H1 g1 R1 (iu.mono g1.g)
    | cnt ρ1 =>
      rw [e] at h
      exact fun σ1 G1 H1 g1 R1 => h us σ1 G1 H1 g1 R1 (iu.mono g1.g)
  unfold oneG at h
  split at h
  · rename_i e p p2
    split at h
    case h_2 => exact h.elim
    rename_i b ρ1 ee
    split at h
    case h_2 => exact h.elim
    rename_i d ρ2 ew
    split at h
    case isFalse => exact h.elim
    rename_i hlt
    refine ⟨_, gs_yield pe_we hco hia, by rw [iu.length]; exact hlt, ?_⟩
    have key : Post X.mg X.K W σ ρ G H (E.e sc e ρ) (fun b ρ' G' H' => ∀ v, Out X.K H G' H' σ ρ' v b → D'.nx (us ++ [v]) σ H') := by
      rw [ee]
      intro G1 H1 g1 e1 R1 v ov
      obtain ⟨G2, g2, e2, R2, i2⟩ := whole_of R1 g1 e1 ov ew
      exact h (us ++ [v]) σ G2 H1 g2 R2 ((iu.mono g2.g).append (IsL.one i2))
    exact S.e O R key
  · rename_i tg it body p
    split at h
    case isFalse => exact h.elim
    rename_i c
    obtain ⟨c1, c2⟩ := Bool.and_eq_true_iff.mp c
    split at h
    case h_2 => exact h.elim
    rename_i w ρ1 ew
    obtain ⟨g, hg, hq⟩ := tg_ok O c1
    refine ⟨_, gs_for O.hp O.calm pi_wi hg gss_wgs (fold_set (by simpa using c2)), ?_⟩
    refine snd_iter S O R ?_
    rw [ew]
    intro G1 H1 g1 e1 R1 hl J wk
    have h1 := PostG.later h g1
    exact gfor_ok (fun ha i R q => hq ha i R fun σ' g R' _ => q σ' g R') (fun R' i' h' => hrec R' i' h') (lock_rep hl R1) (iu.mono g1.g) wk (PostG.unlock hl h1)
  · exact plain h
theorem snd_genS (hco : X.env.scope.isCoroutine = false) (hia : interactive X.env = false) {sc : Scope} (O : XOk M N sc k X W) (Fm : Frm X) : ∀ (n : Nat) {st : List Stmt} {ys : List D} {us : List V} {σ : L2.St} {ρ : Ro} {G H : Hp} {D' : GEnds}, Rep X.K G H σ ρ → IsL X.K G us ys →
    PostG X.K σ ρ G H (genS M N E n sc st ys ρ) D' → WGs X st D' us σ H
  | 0, _, _, _, _, _, _, _, _, _, _, h => h.elim
  | n + 1, [], ys, us, σ, ρ, G, H, D', R, iu, h => ⟨_, gss_nil, h us σ G H Go.refl R iu⟩
  | n + 1, st :: rest, ys, us, σ, ρ, G, H, D', R, iu, h => by
    refine ⟨_, gss_cons gs_wg gss_wgs, ?_⟩
    refine snd_oneG S hco hia O Fm (rec := genS M N E n) (fun R i h => snd_genS hco hia O Fm n R i h) R iu ?_
    have h' : PostG X.K σ ρ G H (match oneG M N E (genS M N E n) sc st ys ρ with
      | .next ys1 ρ1 => genS M N E n sc rest ys1 ρ1
      | r => r) D' := h
    cases e : oneG M N E (genS M N E n) sc st ys ρ with
    | stuck => rw [e] at h'; exact h'
    | next ys1 ρ1 =>
      rw [e] at h'
      exact fun us1 σ1 G1 H1 g1 R1 i1 => snd_genS hco hia O Fm n R1 i1 (PostG.later h' g1)
    | brk ys1 ρ1 => rw [e] at h'; exact h'
    | cnt ys1 ρ1 => rw [e] at h'; exact h'
end
end VE
end

section
set_option Elab.async false
set_option linter.all false
set_option maxRecDepth 100000
set_option maxHeartbeats 1000000
/-! VE16: a module's functions, by the depth of their calls. -/
namespace VE
open PySem PySem.Spec L2

/-- a module: its own functions, its other names -/
structure Tab where
  fns : Str → Option Fn
  gens : Str → Option Fn
  oth : Str → Gk
  dfl : Str → Nat → Option (List D)
  mkx : Str → List D → Option (List (Str × D))
  isx : Str → Str → Option Bool
  fok : Str → Str → Bool
  kwp : Str → Nat → List Str → Option (List KwSrc × List D)
def noFn : Gk → Gk
  | .fn => .no
  | g => g
def noEx : Gk → Gk
  | .ex => .no
  | g => g
/-- what a generator hands out -/
def callG (M : Mdl) (n : Nat) (F : Fn) (ds : List D) : Option (List D) :=
  if ds.length = F.np then (match genS M F.N (ev M F.N n) n F.sc F.body [] (ds.map .fz ++ List.replicate (F.N.length - F.np) .un) with
    | .next ys _ => some ys
    | _ => none) else none
/-- one more call over a model -/
def mkM (T : Tab) (n : Nat) (M : Mdl) (g : Str → List D → Option (List D)) : Mdl := ⟨fun x => match T.fns x with | some _ => .fn | none => noFn (T.oth x), fun x sls => match T.fns x with | some F => callF M n F sls | none => .stuck, g, T.dfl, T.mkx, T.isx, T.fok, T.kwp⟩
/-- calls c deep; n the steps of one body -/
def mdl (T : Tab) (n : Nat) : Nat → Mdl
  | 0 => ⟨fun _ => .no, fun _ _ => .stuck, fun _ _ => none, T.dfl, T.mkx, T.isx, T.fok, T.kwp⟩
  | 1 => ⟨fun x => match T.fns x with | some _ => .fn | none => noEx (noFn (T.oth x)), fun x sls => match T.fns x with | some F => callF (mdl T n 0) n F sls | none => .stuck, fun _ _ => none, T.dfl, T.mkx, T.isx, T.fok, T.kwp⟩
  | 2 => mkM T n (mdl T n 1) fun _ _ => none
  | 3 => mkM T n (mdl T n 2) fun _ _ => none
  | c + 4 => mkM T n (mdl T n (c + 3)) fun x ds => (T.gens x).bind fun F => callG (mdl T n c) n F ds

section
variable {T : Tab} {n : Nat} {P : Program} {w : World} {K : PySem.W.Frag} {mg : Str → Option Value} {base : Heap}
structure TabOk (T : Tab) (P : Program) (w : World) (K : PySem.W.Frag) (mg : Str → Option Value) (base : Heap) : Prop where
  con : ∀ x d, T.oth x = .con d → ∃ u v, mg x = some u ∧ RelV v u ∧ ∀ G, Is K G v d
  free : ∀ x, T.fns x = none → T.oth x = .free → mg x = none
  bfn : ∀ x id, T.oth x = .bfn id → mg x = some (.builtin id)
  fn : ∀ x F, T.fns x = some F → ∃ (f : Addr) (fd : FuncData) (ps : List Str) (nm qual : Str) (params : Arguments) (dvs : List V) (kws : List (Str × V)), mg x = some (.ref f) ∧ FunD K nm qual params F.body F.sc dvs kws f fd ∧ FnScope F.N ps F.sc ∧ ps.length = F.np ∧
    (∀ m ds, T.dfl x m = some ds → ∃ us vs, L2.Binds K fd ps us ∧ Vals vs us ∧ ∀ G, IsL K G vs ds) ∧ ∀ n ks pl dfs, T.kwp x n ks = some (pl, dfs) → KwOk K fd ps n ks pl dfs
  gen : ∀ x F, T.gens x = some F → ∃ (f : Addr) (fd : FuncData) (ps : List Str) (nm qual : Str) (params : Arguments), mg x = some (.ref f) ∧ FunD K nm qual params F.body F.sc [] [] f fd ∧ GScope F.N ps F.sc ∧ ps.length = F.np ∧ L2.Binds K fd ps []
  ex : ∀ x, T.oth x = .ex → ∃ C, mg x = some (.ref C) ∧ ∀ M : Mdl, M.mkx = T.mkx → MkX M 2 P w K mg base x C
  isx : ∀ x y b, T.isx x y = some b → ∃ C D, mg x = some (.ref C) ∧ mg y = some (.ref D) ∧ PySem.W.exmOne K (.ref C) (.ref D) = some b
  fld : ∀ x f, T.fok x f = true → ∃ C, mg x = some (.ref C) ∧ XfC K C ∧ PySem.W.findIn K (.ref C) f = some none
theorem callF_len {M : Mdl} {F : Fn} {sls : List Sl} (h : callF M n F sls ≠ .stuck) : sls.length = F.np := by
  unfold callF at h
  split at h
  · rename_i c
    exact of_decide_eq_true (Bool.and_eq_true_iff.mp c).1
  · exact absurd rfl h
theorem fn_ok' {M M' : Mdl} {k : Nat} {x nm qual : Str} {params : Arguments} {F : Fn} {dvs : List V} {kws : List (Str × V)} {f : Addr} {fd : FuncData} {ps : List Str} (D : FunD K nm qual params F.body F.sc dvs kws f fd) (S : FnScope F.N ps F.sc) (hps : ps.length = F.np) (md : MdOk M k P w K mg base) (hc : ∀ sls, M'.call x sls = callF M n F sls) :
    FnOk P w K mg base (L2.CX P w) (k + 1) f fd ps (spF mg K M' x ps.length) := by
  refine D.ok S (fun vs H Q E ⟨_, _, hl, _⟩ => hl) fun cdv A outer s H vs Q E hr ⟨G, sls, hl, R, h⟩ => ⟨_, pss_wss, ?_⟩
  rw [hc] at h
  refine fn_body (X := cxOf (L2.CX P w) P w K mg base F.N qual F.sc f cdv A outer s H E) (k := k) ⟨rfl, S.nd, fun _ => .inl rfl, fun _ _ => rfl, S.kind, rfl, hr, takes_of rfl rfl rfl rfl, passes_of rfl, md⟩ ⟨rfl, rfl⟩ (hl.trans hps) R h
theorem outS_fz : ∀ {ds : List D} {ρ : Ro}, outS (ds.map .fz) ρ = ds.map .fz
  | [], _ => rfl
  | d :: ds, [] => by simp [outS, outS_fz (ds := ds)]
  | d :: ds, s :: ρ => by simp [outS, outS_fz (ds := ds)]
theorem gen_ok {M M' : Mdl} {k : Nat} {x nm qual : Str} {params : Arguments} {F : Fn} {dvs : List V} {kws : List (Str × V)} {f : Addr} {fd : FuncData} {ps : List Str} (D : FunD K nm qual params F.body F.sc dvs kws f fd) (S : GScope F.N ps F.sc) (hps : ps.length = F.np) (md : MdOk M k P w K mg base) (hc : ∀ ds ys, M'.gen x ds = some ys → callG M n F ds = some ys) :
    GFn P w K mg base (k + 1) f fd ps (spGn K M' x ps.length) := by
  obtain ⟨oc, od, dV, kV, doc, pm, an, cdv, ct, osl, rfl, lk, hcd, _, _⟩ := D.ex
  refine gfn_of lk hcd S (fun vs H Q E ⟨_, _, _, hl, _⟩ => hl) fun A outer s H vs Q E pn hr ⟨G, ds, ys, hl, ex, il, eg, hq⟩ => ⟨_, gss_wgs, ?_⟩
  have eg' := hc ds ys eg
  unfold callG at eg'
  split at eg'
  case isFalse => cases eg'
  rename_i hd
  split at eg'
  case h_2 => cases eg'
  rename_i ys' ρ' e
  cases eg'
  obtain ⟨R0, nm0⟩ := rep_fz ex il
  have R1 : Rep K G H (L2.start F.N vs) (ds.map .fz ++ List.replicate (F.N.length - F.np) .un) := by
    unfold L2.start
    rw [hl, hps]
    exact start_rep R0
  have hia : interactive (gcxOf P w K mg base F.N qual F.sc f cdv A outer s H E pn).env = false := by
    have hk : (gcxOf P w K mg base F.N qual F.sc f cdv A outer s H E pn).env.scope.kind = .function := S.kind
    simp [interactive, hk]
  refine snd_genS (M := M) (N := F.N) (X := gcxOf P w K mg base F.N qual F.sc f cdv A outer s H E pn) (k := k) (W := fun cls d _ H' => E cls d H') (snd_ev n) S.co hia ⟨rfl, S.nd, fun _ => .inl rfl, fun _ _ => rfl, S.kind, rfl, hr, takes_gcx, owns_gcx, md⟩ ⟨rfl, rfl⟩ n R1 .nil ?_
  show PostG K _ _ G H (genS M F.N (ev M F.N n) n F.sc F.body [] _) _
  rw [e]
  intro us σ' G' H' g R' i
  unfold L2.start at g
  rw [hl, hps] at g
  obtain ⟨q1, q2, _⟩ := end_go R0 (List.all_eq_true.mpr fun s hs => by
    obtain ⟨d, _, rfl⟩ := List.mem_map.mp hs
    rfl) g R'
  rw [outS_fz] at q1 q2
  exact hq us G' H' q1 q2 i
theorem mkx_mono {M : Mdl} {j k : Nat} {x : Str} {C : Addr} (h : j ≤ k) (m : MkX M j P w K mg base x C) : MkX M k P w K mg base x C := by
  obtain ⟨fI, fd, ps, sp, i, a1, a2, a3, a4, a5, a6, a7⟩ := m
  exact ⟨fI, fd, ps, sp, i, a1, a2, a3, a4, a5, Nat.le_trans a6 h, a7⟩
theorem md_fn (ok : TabOk T P w K mg base) {M M' : Mdl} {k : Nat} (md : MdOk M k P w K mg base) (hc : ∀ x sls, M'.call x sls = match T.fns x with | some F => callF M n F sls | none => .stuck) (hd : M'.dfl = T.dfl) (hk : M'.kwp = T.kwp) {x : Str} {F : Fn} (hx : T.fns x = some F) :
    ∃ f fd ps, mg x = some (.ref f) ∧ PySem.W.keepIn K (.ref f) = true ∧ FnOk P w K mg base (L2.CX P w) (k + 1) f fd ps (spF mg K M' x ps.length) ∧ (∀ sls, M'.call x sls ≠ .stuck → sls.length = ps.length) ∧
    (∀ m ds, M'.dfl x m = some ds → ∃ us vs, L2.Binds K fd ps us ∧ Vals vs us ∧ ∀ G, IsL K G vs ds) ∧ ∀ n ks pl dfs, M'.kwp x n ks = some (pl, dfs) → KwOk K fd ps n ks pl dfs := by
  obtain ⟨f, fd, ps, nm, qual, params, dvs, kws, h1, h2, h3, h4, h5, h6⟩ := ok.fn x F hx
  have hc' : ∀ sls, M'.call x sls = callF M n F sls := fun sls => by rw [hc, hx]
  refine ⟨f, fd, ps, h1, h2.kp, fn_ok' h2 h3 h4 md hc', fun sls q => ?_, fun m ds q => h5 m ds (by rw [← hd]; exact q), fun n ks pl dfs q => h6 n ks pl dfs (by rw [← hk]; exact q)⟩
  rw [hc'] at q
  rw [h4]
  exact callF_len q
theorem md_step (ok : TabOk T P w K mg base) {M : Mdl} {k : Nat} {g : Str → List D → Option (List D)} (h2 : 1 ≤ k) (md : MdOk M k P w K mg base)
    (hgen : ∀ x ds ys, g x ds = some ys → ∃ (j : Nat) (f : Addr) (fd : FuncData) (ps : List Str), j + 3 ≤ k + 1 ∧ mg x = some (.ref f) ∧ PySem.W.keepIn K (.ref f) = true ∧ GFn P w K mg base j f fd ps (spGn K (mkM T n M g) x ps.length) ∧ L2.Binds K fd ps [] ∧ ds.length = ps.length) :
    MdOk (mkM T n M g) (k + 1) P w K mg base := by
  have inv : ∀ {x : Str} {g : Gk}, (match T.fns x with | some _ => Gk.fn | none => noFn (T.oth x)) = g → g ≠ .no → (∃ F, T.fns x = some F ∧ g = .fn) ∨ (T.fns x = none ∧ T.oth x = g ∧ g ≠ .fn) := fun {x g} h hn => by
    cases q : T.fns x with
    | some F => rw [q] at h; exact .inl ⟨F, rfl, h.symm⟩
    | none =>
      rw [q] at h
      refine .inr ⟨rfl, ?_⟩
      cases q2 : T.oth x <;> rw [q2] at h <;> simp only [noFn] at h <;> subst h <;> first | exact absurd rfl hn | exact ⟨rfl, (fun z => by cases z)⟩
  refine ⟨fun x d h => ?_, fun x h => ?_, fun x id h => ?_, fun x h => ?_, fun x ds ys h hg => hgen x ds ys hg, fun x h => ?_, ok.isx, ok.fld⟩
  · rcases inv h (fun z => by cases z) with ⟨_, _, z⟩ | ⟨_, z, _⟩
    · cases z
    · exact ok.con x d z
  · rcases inv h (fun z => by cases z) with ⟨_, _, z⟩ | ⟨z0, z, _⟩
    · cases z
    · exact ok.free x z0 z
  · rcases inv h (fun z => by cases z) with ⟨_, _, z⟩ | ⟨_, z, _⟩
    · cases z
    · exact ok.bfn x id z
  · rcases inv h (fun z => by cases z) with ⟨F, hF, _⟩ | ⟨_, _, z⟩
    · exact md_fn (M' := mkM T n M g) ok md (fun _ _ => rfl) rfl rfl hF
    · exact absurd rfl z
  · rcases inv h (fun z => by cases z) with ⟨_, _, z⟩ | ⟨_, z, _⟩
    · cases z
    · obtain ⟨C, h1, h2⟩ := ok.ex x z
      exact ⟨C, h1, mkx_mono (by omega) (h2 (mkM T n M g) rfl)⟩
theorem md_ok (ok : TabOk T P w K mg base) : ∀ k, MdOk (mdl T n k) k P w K mg base
  | 0 => ⟨fun _ _ h => (by cases h), fun _ h => (by cases h), fun _ _ h => (by cases h), fun _ h => (by cases h), fun _ _ _ h => (by cases h), fun _ h => (by cases h), ok.isx, ok.fld⟩
  | 1 => by
    have md := md_ok ok 0
    have inv : ∀ {x : Str} {g : Gk}, (match T.fns x with | some _ => Gk.fn | none => noEx (noFn (T.oth x))) = g → g ≠ .no → (∃ F, T.fns x = some F ∧ g = .fn) ∨ (T.fns x = none ∧ T.oth x = g ∧ g ≠ .fn ∧ g ≠ .ex) := fun {x g} h hn => by
      cases q : T.fns x with
      | some F => rw [q] at h; exact .inl ⟨F, rfl, h.symm⟩
      | none =>
        rw [q] at h
        refine .inr ⟨rfl, ?_⟩
        cases q2 : T.oth x <;> rw [q2] at h <;> simp only [noFn, noEx] at h <;> subst h <;> first | exact absurd rfl hn | exact ⟨rfl, (fun z => by cases z), (fun z => by cases z)⟩
    refine ⟨fun x d h => ?_, fun x h => ?_, fun x id h => ?_, fun x h => ?_, fun x ds ys h hg => ?_, fun x h => ?_, ok.isx, ok.fld⟩
    · rcases inv h (fun z => by cases z) with ⟨_, _, z⟩ | ⟨_, z, _⟩
      · cases z
      · exact ok.con x d z
    · rcases inv h (fun z => by cases z) with ⟨_, _, z⟩ | ⟨z0, z, _⟩
      · cases z
      · exact ok.free x z0 z
    · rcases inv h (fun z => by cases z) with ⟨_, _, z⟩ | ⟨_, z, _⟩
      · cases z
      · exact ok.bfn x id z
    · rcases inv h (fun z => by cases z) with ⟨F, hF, _⟩ | ⟨_, _, z, _⟩
      · exact md_fn (M' := mdl T n 1) ok md (fun _ _ => rfl) rfl rfl hF
      · exact absurd rfl z
    · cases hg
    · rcases inv h (fun z => by cases z) with ⟨_, _, z⟩ | ⟨_, _, _, z⟩
      · cases z
      · exact absurd rfl z
  | 2 => md_step ok (Nat.le_refl 1) (md_ok ok 1) fun _ _ _ h => by cases h
  | 3 => md_step ok (by decide) (md_ok ok 2) fun _ _ _ h => by cases h
  | c + 4 => md_step ok (by omega) (md_ok ok (c + 3)) fun x ds ys hg => by
    obtain ⟨F, hF, hcg⟩ := bind_some' hg
    obtain ⟨f, fd, ps, nm, qual, params, h1, h2, h3, h4, h5⟩ := ok.gen x F hF
    refine ⟨c + 1, f, fd, ps, Nat.le_refl _, h1, h2.kp, gen_ok (n := n) h2 h3 h4 (md_ok ok c) fun ds' ys' e => ?_, h5, ?_⟩
    · have e' : ((T.gens x).bind fun F => callG (mdl T n c) n F ds') = some ys' := e
      rw [hF] at e'
      exact e'
    · rw [h4]
      unfold callG at hcg
      split at hcg
      · assumption
      · cases hcg
end
end VE
end

section
set_option Elab.async false
set_option linter.all false
set_option maxRecDepth 100000
set_option maxHeartbeats 1000000
/-! VE17: the inits of own exceptions. -/
namespace VE
open PySem PySem.Spec L2 PySem.HandSPX

/-- self.f = p, .. : the fields and the parameters' places -/
def initB (N : List Str) (sc : Scope) : List Stmt → Option (List (Str × Nat))
  | [] => some []
  | .Pass _ :: r => initB N sc r
  | .Expr (.Constant (.str _) _ _) _ :: r => initB N sc r
  | .Assign [.Attribute (.Name s _) f _] (.Name x _) _ :: r => (match ixN? N s, ixN? N x with
    | some 0, some (i + 1) => if visK sc s && visK sc x then (initB N sc r).map ((f, i + 1) :: ·) else none
    | _, _ => none)
  | _ => none
/-- what the exception's dict holds behind it, the latest first -/
def fvs (σ : L2.St) (fs : List (Str × Nat)) : List (Str × V) := (fs.map fun p => (p.1, ((σ[p.2]?).getD none).getD .non)).reverse
section
variable {X : Cx} {N : List Str} {sc : Scope} {C a : Addr} {σ : L2.St}
structure InOk (X : Cx) (N : List Str) (sc : Scope) : Prop where
  nm : X.N = N
  sc : X.env.scope = sc
theorem InOk.var (O : InOk X N sc) {x : Str} {i : Nat} {p : Pos} (hi : ixN? N x = some i) (hv : visK sc x = true) : PE X (.Name x p) (tVar i) := by
  have hv2 : Vis X.env.scope x := by
    rw [O.sc]
    have h2 := (Bool.and_eq_true_iff.mp hv).2
    split at h2
    · rename_i q; exact .inl q
    · rename_i q; exact .inr (.inl q)
    · rename_i q; exact .inr (.inr q)
    · cases h2
  exact pe_var (by rw [O.nm]; exact ixN_get hi) hv2 (nameOk_dbg (vis_name hv)) (nameOk_cd (vis_name hv))
theorem init_inv {s : Stmt} {r : List Stmt} {fs : List (Str × Nat)} (h : initB N sc (s :: r) = some fs) : (∃ t, t = tNext ∧ (∀ X : Cx, PS X s t) ∧ initB N sc r = some fs) ∨
    ∃ (so x f : Str) (p1 p2 p3 p4 : Pos) (i : Nat) (fs' : List (Str × Nat)), s = .Assign [.Attribute (.Name so p1) f p2] (.Name x p3) p4 ∧ ixN? N so = some 0 ∧ ixN? N x = some (i + 1) ∧ visK sc so = true ∧ visK sc x = true ∧ initB N sc r = some fs' ∧ fs = (f, i + 1) :: fs' := by
  unfold initB at h
  split at h
  · rename_i e; cases e
  · rename_i e; cases e; exact .inl ⟨_, rfl, fun X => ps_pass, h⟩
  · rename_i e; cases e; exact .inl ⟨_, rfl, fun X => ps_doc, h⟩
  · rename_i so p1 f p2 x p3 p4 r' e
    cases e
    split at h
    · rename_i i h1 h2
      split at h
      · rename_i c
        obtain ⟨c1, c2⟩ := Bool.and_eq_true_iff.mp c
        obtain ⟨fs', h3, rfl⟩ := map_some h
        exact .inr ⟨so, x, f, p1, p2, p3, p4, i, fs', rfl, h1, h2, c1, c2, h3, rfl⟩
      · cases h
    · cases h
  · cases h
variable (O : InOk X N sc) (T : OexC X.K C)
include O T
theorem init_b {d : Addr} (hself : σ[0]? = some (some (.ref a))) (hda : d ≠ a) {D' : Ends} : ∀ {st : List Stmt} {fs : List (Str × Nat)} {g0 : List (Str × V)} {H : Hp}, initB N sc st = some fs → (∀ p ∈ fs, PySem.W.findIn X.K (.ref C) p.1 = some none) →
    (∀ p ∈ fs, ∃ v, σ[p.2]? = some (some v)) → H a = some (exo a C (some d)) → H d = some (exd d g0) → g0.length + fs.length ≤ 900 →
    (∀ H2, H2 a = some (exo a C (some d)) → H2 d = some (exd d (fvs σ fs ++ g0)) → (∀ b, b ≠ a → b ≠ d → H2 b = H b) → D'.nx σ H2) → WSs X st D' σ H
  | [], fs, g0, H, hb, _, _, ha, hd, _, q => by
    cases hb
    exact WSs.mk pss_nil (q H ha hd fun _ _ _ => rfl)
  | s :: r, fs, g0, H, hb, hno, hv, ha, hd, hl, q => by
    rcases init_inv hb with ⟨t, rfl, ht, h1⟩ | ⟨so, x, f, p1, p2, p3, p4, i, fs', rfl, h1, h2, h3, h4, h5, rfl⟩
    · exact WSs.mk (pss_cons (ht X) pss_wss) (init_b hself hda h1 hno hv ha hd hl q)
    · obtain ⟨v, ev⟩ := hv (f, i + 1) List.mem_cons_self
      refine WSs.mk (pss_cons (ps_ost (O.var h1 h3) (O.var h2 h4)) pss_wss) ?_
      refine ⟨v, ev, _, hself, a, C, rfl, T, hno (f, i + 1) List.mem_cons_self, .inr ⟨d, g0, ha, hd, by simp only [List.length_cons] at hl; omega, ?_⟩⟩
      refine init_b hself hda (g0 := (f, v) :: g0) h5 (fun p hp => hno p (List.mem_cons_of_mem _ hp)) (fun p hp => hv p (List.mem_cons_of_mem _ hp)) (by rw [upd_ne (Ne.symm hda)]; exact ha) upd_same (by simp only [List.length_cons] at hl ⊢; omega) fun H2 z1 z2 z3 => ?_
      refine q H2 z1 ?_ fun b b1 b2 => ?_
      · have e : fvs σ ((f, i + 1) :: fs') ++ g0 = fvs σ fs' ++ (f, v) :: g0 := by
          unfold fvs
          have ev' : ((σ[i + 1]?).getD none).getD .non = v := by
            have : σ[i + 1]? = some (some v) := ev
            rw [this]
            rfl
          simp [ev']
        rw [e]
        exact z2
      · rw [z3 b b1 b2, upd_ne b2]
theorem init_a (hself : σ[0]? = some (some (.ref a))) {D' : Ends} : ∀ {st : List Stmt} {fs : List (Str × Nat)} {H : Hp}, initB N sc st = some fs → (∀ p ∈ fs, PySem.W.findIn X.K (.ref C) p.1 = some none) →
    (∀ p ∈ fs, ∃ v, σ[p.2]? = some (some v)) → H a = some (exo a C none) → fs ≠ [] → fs.length ≤ 900 →
    (∀ d H2, H d = none → d ≠ a → H2 a = some (exo a C (some d)) → H2 d = some (exd d (fvs σ fs)) → (∀ b, b ≠ a → b ≠ d → H2 b = H b) → D'.nx σ H2) → WSs X st D' σ H
  | [], fs, H, hb, _, _, _, hn, _, q => by
    cases hb
    exact absurd rfl hn
  | s :: r, fs, H, hb, hno, hv, ha, hn, hl, q => by
    rcases init_inv hb with ⟨t, rfl, ht, h1⟩ | ⟨so, x, f, p1, p2, p3, p4, i, fs', rfl, h1, h2, h3, h4, h5, rfl⟩
    · exact WSs.mk (pss_cons (ht X) pss_wss) (init_a hself h1 hno hv ha hn hl q)
    · obtain ⟨v, ev⟩ := hv (f, i + 1) List.mem_cons_self
      refine WSs.mk (pss_cons (ps_ost (O.var h1 h3) (O.var h2 h4)) pss_wss) ?_
      refine ⟨v, ev, _, hself, a, C, rfl, T, hno (f, i + 1) List.mem_cons_self, .inl ⟨ha, fun d hd hda => ?_⟩⟩
      refine init_b O T hself hda (g0 := [(f, v)]) h5 (fun p hp => hno p (List.mem_cons_of_mem _ hp)) (fun p hp => hv p (List.mem_cons_of_mem _ hp)) upd_same (by rw [upd_ne hda]; exact upd_same) (by simp only [List.length_cons, List.length_nil] at hl ⊢; omega) fun H2 z1 z2 z3 => ?_
      refine q d H2 hd hda z1 ?_ fun b b1 b2 => ?_
      · have e : fvs σ ((f, i + 1) :: fs') = fvs σ fs' ++ [(f, v)] := by
          unfold fvs
          have ev' : ((σ[i + 1]?).getD none).getD .non = v := by
            have : σ[i + 1]? = some (some v) := ev
            rw [this]
            rfl
          simp [ev']
        rw [e]
        exact z2
      · rw [z3 b b1 b2, upd_ne b1, upd_ne b2]
end
end VE
end

section
set_option Elab.async false
set_option linter.all false
set_option maxRecDepth 100000
set_option maxHeartbeats 1000000
/-! VE18: own exceptions; what is read of the written part. -/
namespace VE
open PySem PySem.Spec L2 PySem.HandSPX

/-- an own exception's fields, by the arguments -/
def mkxOf (np : Nat) (fs : List (Str × Nat)) (ds : List D) : Option (List (Str × D)) :=
  if decide (ds.length + 1 = np) && decide (ds.length ≤ 1000) then some ((fs.map fun p => (p.1, (ds[p.2 - 1]?).getD .non)).reverse) else none
section
variable {K : PySem.W.Frag} {G : Hp}
theorem fsL_app : ∀ {vs ws : List (Str × V)} {ds es : List (Str × D)}, FsL K G vs ds → FsL K G ws es → FsL K G (vs ++ ws) (ds ++ es)
  | _, _, _, _, .nil, s => s
  | _, _, _, _, .cons h r, s => .cons h (fsL_app r s)
theorem fsL_rev : ∀ {vs : List (Str × V)} {ds : List (Str × D)}, FsL K G vs ds → FsL K G vs.reverse ds.reverse
  | _, _, .nil => .nil
  | _, _, .cons h r => by
    rw [List.reverse_cons, List.reverse_cons]
    exact fsL_app (fsL_rev r) (.cons h .nil)
theorem start_get {N : List Str} {vs : List V} {i : Nat} {v : V} (h : vs[i]? = some v) : (L2.start N vs)[i]? = some (some v) := by
  unfold L2.start
  rw [List.getElem?_append_left (by rw [List.length_map]; exact lt_get h), List.getElem?_map, h]
  rfl
theorem fvs_is {N : List Str} {u : V} {ws : List V} {ds : List D} (il : IsL K G ws ds) : ∀ {fs : List (Str × Nat)}, (∀ p ∈ fs, 0 < p.2 ∧ p.2 < ws.length + 1) →
    FsL K G (fs.map fun p => (p.1, (((L2.start N (u :: ws))[p.2]?).getD none).getD .non)) (fs.map fun p => (p.1, (ds[p.2 - 1]?).getD .non))
  | [], _ => .nil
  | (f, i) :: fs, h => by
    obtain ⟨h1, h2⟩ := h (f, i) List.mem_cons_self
    obtain ⟨j, rfl⟩ : ∃ j, i = j + 1 := ⟨i - 1, by simp only at h1; omega⟩
    have hj : j < ws.length := Nat.lt_of_succ_lt_succ h2
    obtain ⟨v, ev⟩ : ∃ v, ws[j]? = some v := ⟨_, List.getElem?_eq_getElem hj⟩
    obtain ⟨d, ed, i1⟩ := il.getV ev
    have e1 : (((L2.start N (u :: ws))[j + 1]?).getD none).getD V.non = v := by
      rw [start_get (vs := u :: ws) (i := j + 1) (v := v) ev]
      rfl
    have e2 : (ds[j + 1 - 1]?).getD D.non = d := by
      rw [Nat.add_sub_cancel, ed]
      rfl
    show FsL K G ((f, _) :: _) ((f, _) :: _)
    rw [e1, e2]
    exact .cons i1 (fvs_is il fun p hp => h p (List.mem_cons_of_mem _ hp))
end
section
variable {M : Mdl} {P : Program} {w : World} {K : PySem.W.Frag} {mg : Str → Option Value} {base : Heap} {x nm qual : Str} {params : Arguments} {body : List Stmt} {sc : Scope} {N ps : List Str} {fs : List (Str × Nat)} {C fI : Addr} {fd : FuncData}
def spInit (K : PySem.W.Frag) (C : Addr) (N : List Str) (np : Nat) (fs : List (Str × Nat)) : Sp := fun vs H Q _ => ∃ a ws, vs = .ref a :: ws ∧ vs.length = np ∧ H a = some (exo a C none) ∧
  ∀ d H2, H d = none → d ≠ a → H2 a = some (exo a C (some d)) → H2 d = some (exd d (fvs (L2.start N vs) fs)) → (∀ b, b ≠ a → b ≠ d → H2 b = H b) → Q .non H2
theorem init_fn (F : FunD K nm qual params body sc [] [] fI fd) (S : FnScope N ps sc) (hb : initB N sc body = some fs) (hn : fs ≠ []) (hl : fs.length ≤ 900) (hp : ∀ p ∈ fs, 0 < p.2 ∧ p.2 < ps.length) (T : OexC K C) (hno : ∀ p ∈ fs, PySem.W.findIn K (.ref C) p.1 = some none) :
    FnOk P w K mg base (L2.CX P w) 1 fI fd ps (spInit K C N ps.length fs) := by
  refine F.ok S (fun vs H Q E ⟨_, _, _, h, _⟩ => h) fun cdv A outer s H vs Q E hr ⟨a, ws, ev, hlen, ha, q⟩ => ⟨_, pss_wss, ?_⟩
  subst ev
  refine init_a (X := cxOf (L2.CX P w) P w K mg base N qual sc fI cdv A outer s H E) ⟨rfl, rfl⟩ T (start_get rfl) hb hno (fun p hp' => ?_) ha hn hl fun d H2 h1 h2 h3 h4 h5 => q d H2 h1 h2 h3 h4 h5
  obtain ⟨_, h2⟩ := hp p hp'
  rw [← hlen] at h2
  exact ⟨_, start_get (List.getElem?_eq_getElem h2)⟩
theorem mkx_ok (F : FunD K nm qual params body sc [] [] fI fd) (S : FnScope N ps sc) (hb : initB N sc body = some fs) (hn : fs ≠ []) (hl : fs.length ≤ 900) (hp : ∀ p ∈ fs, 0 < p.2 ∧ p.2 < ps.length) (T : OexC K C) (hno : ∀ p ∈ fs, PySem.W.findIn K (.ref C) p.1 = some none)
    (iC : PySem.W.findIn K (.ref C) "__init__" = some (some (.ref fI))) (tI : PySem.W.typeIn K (.ref fI) = some (.type "function")) (hB : L2.Binds K fd ps []) (hm : ∀ ds, M.mkx x ds = mkxOf ps.length fs ds) : MkX M 2 P w K mg base x C := by
  refine ⟨fI, fd, ps, _, 1, T, iC, tI, init_fn F S hb hn hl hp T hno, hB, Nat.le_refl 2, fun ds fsD e => ?_⟩
  rw [hm] at e
  unfold mkxOf at e
  split at e
  · rename_i c
    cases e
    simp only [Bool.and_eq_true, decide_eq_true_eq] at c
    refine ⟨c.2, fun G H vs a Q E il ha q => ?_⟩
    have hlen : (V.ref a :: vs).length = ps.length := by rw [List.length_cons, il.length]; exact c.1
    refine ⟨a, vs, rfl, hlen, ha, fun d H2 h1 h2 h3 h4 h5 => q d _ H2 h1 h2 ?_ h3 h4 h5⟩
    unfold fvs
    refine fsL_rev (fvs_is il fun p hp' => ?_)
    obtain ⟨z1, z2⟩ := hp p hp'
    rw [← hlen] at z2
    exact ⟨z1, z2⟩
  · cases e
end
/-! ### what K tells -/
/-- an own class over ValueError, made by ValueError's __new__ -/
def oexB (K : PySem.W.Frag) (C : Addr) : Bool := (match K.lookup C with
  | some ⟨.type "type", _, .cls cd, sl⟩ => (match cd.mro, sl.toList with
    | .ref C' :: bm, [_, _, _, _, some (.builtin n), _] => C' == C && n == "ValueError.__new__" && !cd.hasDel && cd.hasDict && refsVE bm
    | _, _ => false)
  | _ => false) && decide (PySem.W.findIn K (.ref C) "__setattr__" = some (some (.builtin "object.__setattr__"))) && decide (PySem.W.subIn K (.ref C) (.type "BaseException") = some true) && decide (PySem.W.typeIn K (.ref C) = some (.type "type")) && PySem.W.keepIn K (.ref C)
theorem oexB_ok {K : PySem.W.Frag} {C : Addr} (h : oexB K C = true) : OexC K C := by
  unfold oexB at h
  simp only [Bool.and_eq_true, decide_eq_true_eq] at h
  obtain ⟨⟨⟨⟨q, h1⟩, h2⟩, h3⟩, h4⟩ := h
  refine ⟨?_, h1, h2, h3, h4⟩
  split at q
  · rename_i dd cd sl ho
    split at q
    · rename_i C' bm k0 k1 k2 k3 n k5 hm hs
      simp only [Bool.and_eq_true, beq_iff_eq, Bool.not_eq_true'] at q
      obtain ⟨⟨⟨⟨rfl, rfl⟩, hdel⟩, hdct⟩, ht⟩ := q
      obtain ⟨nm, bs, mro, ns, qn, hd, sn, sub, ab, col, del⟩ := cd
      dsimp only at hm hdel hdct
      subst hm hdel hdct
      have hsl : sl = #[k0, k1, k2, k3, some (.builtin "ValueError.__new__"), k5] := by
        obtain ⟨l⟩ := sl
        simp only at hs
        rw [hs]
      subst hsl
      exact ⟨nm, qn, ns, bs, bm, sn, sub, ab, col, dd, k0, k1, k2, k3, k5, ho, ht⟩
    · cases q
  · cases q
/-- a value of the written part is this datum -/
def vOf : Value → V
  | .none => .non
  | .bool b => .bl b
  | .int i _ => .int i
  | .str s _ => .str s
  | .ref a => .ref a
  | _ => .non
mutual
def isB (K : PySem.W.Frag) : Value → D → Bool
  | .none, .non => true
  | .bool b, .bl c => b == c
  | .int i _, .int j => decide (i = j)
  | .str s _, .str t => decide (s = t)
  | .ref a, .tup ds => (match K.lookup a with
    | some ⟨.type c, _, .seq its _, _⟩ => decide (c = "tuple") && decide (its.size ≤ sizeLine) && isBs K its.toList ds
    | _ => false)
  | .ref a, .scr ds => (match K.lookup a with
    | some ⟨.type c, none, .seq its _, _⟩ => decide (c = "list") && decide (its.size ≤ sizeLine) && isBs K its.toList ds
    | _ => false)
  | _, _ => false
def isBs (K : PySem.W.Frag) : List Value → List D → Bool
  | [], [] => true
  | u :: us, d :: ds => isB K u d && isBs K us ds
  | _, _ => false
end
mutual
theorem isB_ok {K : PySem.W.Frag} {G : Hp} : ∀ {d : D} {u : Value}, isB K u d = true → RelV (vOf u) u ∧ Is K G (vOf u) d
  | .non, u, h => by
    cases u <;> first | exact ⟨rfl, .non⟩ | (unfold isB at h; cases h)
  | .bl b, u, h => by
    cases u with
    | bool c =>
      unfold isB at h
      have e : c = b := by simpa using h
      subst e
      exact ⟨rfl, .bl _⟩
    | _ => unfold isB at h; cases h
  | .int i, u, h => by
    cases u with
    | int c t =>
      unfold isB at h
      have e : c = i := by simpa using h
      subst e
      exact ⟨⟨t, rfl⟩, .int _⟩
    | _ => unfold isB at h; cases h
  | .str i, u, h => by
    cases u with
    | str c t =>
      unfold isB at h
      have e : c = i := by simpa using h
      subst e
      exact ⟨⟨t, rfl⟩, .str _⟩
    | _ => unfold isB at h; cases h
  | .tup ds, u, h => by
    cases u with
    | ref a =>
      unfold isB at h
      split at h
      · rename_i c od its n sl q
        simp only [Bool.and_eq_true, decide_eq_true_eq] at h
        obtain ⟨⟨rfl, h2⟩, h3⟩ := h
        obtain ⟨r, il⟩ := isBs_ok (G := G) h3
        exact ⟨rfl, .tup (.inr ⟨_, its, n, q, rfl, rfl, h2, r⟩) il⟩
      · cases h
    | _ => unfold isB at h; cases h
  | .scr ds, u, h => by
    cases u with
    | ref a =>
      unfold isB at h
      split at h
      · rename_i c its n sl q
        simp only [Bool.and_eq_true, decide_eq_true_eq] at h
        obtain ⟨⟨rfl, h2⟩, h3⟩ := h
        obtain ⟨r, il⟩ := isBs_ok (G := G) h3
        exact ⟨rfl, .scr (.inr ⟨_, its, n, q, rfl, rfl, rfl, h2, r⟩) il⟩
      · cases h
    | _ => unfold isB at h; cases h
  | .lst ds, u, h => by cases u <;> (unfold isB at h; cases h)
  | .obj _ _, u, h => by cases u <;> (unfold isB at h; cases h)
  | .dic _ _, u, h => by cases u <;> (unfold isB at h; cases h)
theorem isBs_ok {K : PySem.W.Frag} {G : Hp} : ∀ {ds : List D} {us : List Value}, isBs K us ds = true → Vals (us.map vOf) us ∧ IsL K G (us.map vOf) ds
  | [], [], _ => ⟨.nil, .nil⟩
  | [], _ :: _, h => by unfold isBs at h; cases h
  | _ :: _, [], h => by unfold isBs at h; cases h
  | d :: ds, u :: us, h => by
    unfold isBs at h
    obtain ⟨h1, h2⟩ := Bool.and_eq_true_iff.mp h
    obtain ⟨r1, i1⟩ := isB_ok (G := G) h1
    obtain ⟨r2, i2⟩ := isBs_ok (G := G) h2
    exact ⟨.cons r1 r2, .cons i1 i2⟩
end
end VE
end

section
set_option Elab.async false
set_option linter.all false
set_option maxRecDepth 100000
set_option maxHeartbeats 1000000
/-! VE19: a program's table, and the end of a law. -/
namespace VE
open PySem PySem.Spec L2 PySem.HandSPX
open C8 (scC fnScope_by)

/-- a def: its name, its parameters, its names, the def, its defaults' data -/
structure Ent where
  x : Str
  ps : List Str
  N : List Str
  d : He.DefD
  dfs : List D
  /-- calls with keywords: so many values, these names, the plan -/
  kws : List (Nat × List Str × List KwSrc) := []
/-- an own exception: its class's name, its init's parameters and names, the init, its fields -/
structure Exn where
  x : Str
  ps : List Str
  N : List Str
  d : He.DefD
  fs : List (Str × Nat)
structure Prg where
  ents : List Ent
  exns : List Exn
  cons : List (Str × D)
  bfns : List (Str × String)
  frees : List Str
  /-- is an error of the first class one of the second -/
  subs : List ((Str × Str) × Bool)
  gens : List Ent := []
def Ent.fn (e : Ent) : Fn := ⟨e.N, e.ps.length, e.d.scope, e.d.body⟩
def Prg.ent (p : Prg) (x : Str) : Option Ent := p.ents.find? fun e => e.x == x
def Prg.exn (p : Prg) (x : Str) : Option Exn := p.exns.find? fun e => e.x == x
def Prg.gen (p : Prg) (x : Str) : Option Ent := p.gens.find? fun e => e.x == x
def Prg.tab (p : Prg) : Tab where
  fns := fun x => (p.ent x).map Ent.fn
  gens := fun x => (p.gen x).map Ent.fn
  oth := fun x => match p.exn x with
    | some _ => .ex
    | none => (match p.cons.lookup x with
      | some d => .con d
      | none => (match p.bfns.lookup x with
        | some id => .bfn id
        | none => if p.frees.contains x then .free else if (p.gen x).isSome then .gen else .no))
  dfl := fun x m => (p.ent x).bind fun e => if decide (e.ps.length ≤ m + e.dfs.length) && decide (m ≤ e.ps.length) then some (e.dfs.drop (m + e.dfs.length - e.ps.length)) else none
  mkx := fun x ds => (p.exn x).bind fun e => mkxOf e.ps.length e.fs ds
  isx := fun x y => (p.subs.find? fun q => q.1.1 == x && q.1.2 == y).map (·.2)
  kwp := fun x n ks => (p.ent x).bind fun e => (e.kws.find? fun q => q.1 == n && q.2.1 == ks).map fun q => (q.2.2, e.dfs)
  fok := fun x f => (p.exn x).any fun e => e.fs.any fun q => q.1 == f
def Prg.fa (p : Prg) : List He.Fa := p.ents.map (fun e => .glo e.x) ++ (p.exns.map (fun e => .glo e.x) ++ (p.frees.map .free ++ p.gens.map (fun e => .glo e.x)))
def Prg.fn (p : Prg) : List He.DefD := p.ents.map (·.d) ++ (p.exns.map (·.d) ++ p.gens.map (·.d))
def dvB (K : PySem.W.Frag) : He.Dv → D → Bool
  | .non, .non => true
  | .bl b, .bl c => b == c
  | .int i, .int j => decide (i = j)
  | .str s, .str t => decide (s = t)
  | .glo x, d => isB K (.ref (He.ga K x)) d
  | .adr p, d => isB K (.ref (p K)) d
  | _, _ => false
def dvBs (K : PySem.W.Frag) : List He.Dv → List D → Bool
  | [], [] => true
  | v :: vs, d :: ds => dvB K v d && dvBs K vs ds
  | _, _ => false
def exnB (K : PySem.W.Frag) (e : Exn) : Bool := xfB K (He.ga K e.x) && oexB K (He.ga K e.x) && (e.fs.all fun p => decide (PySem.W.findIn K (.ref (He.ga K e.x)) p.1 = some none)) && decide (PySem.W.findIn K (.ref (He.ga K e.x)) "__init__" = some (some (.ref (He.fAd K e.d.at_)))) && decide (PySem.W.typeIn K (.ref (He.fAd K e.d.at_)) = some (.type "function"))
def Prg.exB (p : Prg) (K : PySem.W.Frag) : Bool := (p.ents.all fun e => dvBs K e.d.dfl e.dfs) && (p.exns.all (exnB K)) && (p.cons.all fun q => match PySem.W.nsIn K mainGlobals q.1 with
    | some (some u) => isB K u q.2
    | _ => false) && (p.bfns.all fun q => decide (PySem.W.nsIn K mainGlobals q.1 = some (some (.builtin q.2)))) && (p.subs.all fun q => decide (PySem.W.nsIn K mainGlobals q.1.1 = some (some (.ref (He.ga K q.1.1)))) && decide (PySem.W.nsIn K mainGlobals q.1.2 = some (some (.ref (He.ga K q.1.2)))) && decide (PySem.W.exmOne K (.ref (He.ga K q.1.1)) (.ref (He.ga K q.1.2)) = some q.2))
/-- what is seen of the tables alone -/
def entC (e : Ent) : Bool := scC e.N e.ps e.d.scope && decide (e.d.at_ = (e.x, none)) && e.d.kwd.isEmpty
def exnC (e : Exn) : Bool := scC e.N e.ps e.d.scope && e.d.kwd.isEmpty && e.d.dfl.isEmpty && decide (initB e.N e.d.scope e.d.body = some e.fs) && !e.fs.isEmpty && decide (e.fs.length ≤ 900) && e.fs.all fun p => decide (0 < p.2) && decide (p.2 < e.ps.length)
def gscC (N P : List Str) (sc : Scope) : Bool :=
  decide (sc.kind = .function) && !sc.isCoroutine && sc.isGenerator && decide N.Nodup && decide (N.take P.length = P) && P.all (fun x => decide (sc.names.lookup x = some .local) || decide (sc.names.lookup x = some .cell)) && sc.names.all (fun y => !decide (y.2 = .free))
theorem gScope_by {N P : List Str} {sc : Scope} (h : gscC N P sc = true) : GScope N P sc := by
  unfold gscC at h
  simp only [Bool.and_eq_true, Bool.not_eq_true', decide_eq_true_eq, List.all_eq_true, Bool.or_eq_true, decide_eq_false_iff_not] at h
  obtain ⟨⟨⟨⟨⟨⟨h1, h2⟩, h3⟩, h4⟩, h5⟩, h6⟩, h7⟩ := h
  exact ⟨h1, h2, h3, h4, h5, h6, h7⟩
def genC (e : Ent) : Bool := gscC e.N e.ps e.d.scope && decide (e.d.at_ = (e.x, none)) && e.d.kwd.isEmpty && e.d.dfl.isEmpty
/-- how a def's arguments are bound -/
def BindP (d : He.DefD) (ps : List Str) (nd : Nat) : Prop := ∀ (K : PySem.W.Frag) (dvs : List V) (f : Addr) (fd : FuncData), FunD K d.name d.qual d.params d.body d.scope dvs [] f fd → dvs.length = nd → ∀ j, j ≤ nd → ∃ us, Vals (dvs.drop j) us ∧ L2.Binds K fd ps us
/-- how a call with keywords is bound -/
def BindK (d : He.DefD) (ps : List Str) (nd : Nat) (kws : List (Nat × List Str × List KwSrc)) : Prop := ∀ (K : PySem.W.Frag) (dvs : List V) (f : Addr) (fd : FuncData), FunD K d.name d.qual d.params d.body d.scope dvs [] f fd → dvs.length = nd →
  ∀ q ∈ kws, ∃ g, KBn K fd ps q.1 q.2.1 g fun vs zs => planL .non vs dvs zs q.2.2
theorem paired_getD : ∀ {vs : List V} {us : List Value} {i : Nat}, Vals vs us → RelV ((vs[i]?).getD .non) ((us[i]?).getD .none)
  | _, _, _, .nil => rfl
  | _, _, 0, .cons h _ => h
  | _, _, i + 1, .cons _ r => by
    simpa using paired_getD (i := i) r
theorem plan_rel {vs ds zs : List V} {us its ws : List Value} (r1 : Vals vs us) (r2 : Vals ds its) (r3 : Vals zs ws) : ∀ pl : List KwSrc, Vals (planL .non vs ds zs pl) (planL .none us its ws pl)
  | [] => .nil
  | .pos i :: pl => .cons (paired_getD r1) (plan_rel r1 r2 r3 pl)
  | .dfl i :: pl => .cons (paired_getD r2) (plan_rel r1 r2 r3 pl)
  | .kw i :: pl => .cons (paired_getD r3) (plan_rel r1 r2 r3 pl)
theorem isL_getD {K : PySem.W.Frag} {G : Hp} {i : Nat} : ∀ {vs : List V} {ds : List D}, IsL K G vs ds → Is K G ((vs[i]?).getD .non) ((ds[i]?).getD .non) := fun {vs ds} il => by
  cases q : ds[i]? with
  | some d =>
    obtain ⟨v, e, h⟩ := il.get q
    rw [e]
    exact h
  | none =>
    cases q2 : vs[i]? with
    | some v =>
      obtain ⟨d, e, _⟩ := il.getV q2
      rw [q] at e
      cases e
    | none => exact .non
theorem plan_is {K : PySem.W.Frag} {G : Hp} {vs dv zs : List V} {ds dd es : List D} (r1 : IsL K G vs ds) (r2 : IsL K G dv dd) (r3 : IsL K G zs es) : ∀ pl : List KwSrc, IsL K G (planL .non vs dv zs pl) (planL .non ds dd es pl)
  | [] => .nil
  | .pos i :: pl => .cons (isL_getD r1) (plan_is r1 r2 r3 pl)
  | .dfl i :: pl => .cons (isL_getD r2) (plan_is r1 r2 r3 pl)
  | .kw i :: pl => .cons (isL_getD r3) (plan_is r1 r2 r3 pl)
theorem kbind1 {K : PySem.W.Frag} {x qual : Str} {params : Arguments} {body : List Stmt} {scope : Scope} {dvs : List V} {f : Addr} {fd : FuncData} {ps : List Str} (F : FunD K x qual params body scope dvs [] f fd) (n : Nat) (ks : List Str) (pl : List KwSrc) (hd : dvs ≠ [])
    (h : ∀ (T : Addr) (kV doc pm : Value) (an : Option Addr) (cdv ct : Value) (us its ws : List Value), us.length = n → its.length = dvs.length → ws.length = ks.length →
      ∃ k, bindArgs (PySem.W.fnOf x qual params body scope (.ref T) kV doc pm an cdv ct) ⟨us, ks.zip ws⟩ = seqItems? (.ref T) >>= k ∧ k (some its.toArray) = pure (ps.zip (planL .none us its ws pl))) : ∃ g, KBn K fd ps n ks g fun vs zs => planL .non vs dvs zs pl := by
  obtain ⟨oc, od, dV, kV, doc, pm, an, cdv, ct, osl, rfl, lk, hcd, hD, hK⟩ := F.ex
  rcases hD with ⟨e, _⟩ | ⟨_, T, o, its, m, rfl, lT, oT, rT⟩
  · exact absurd e hd
  · refine ⟨fun us ws => planL .none us its ws pl, ⟨fun s us ws X l1 l2 => ?_, fun r1 r2 => plan_rel r1 rT r2 pl⟩⟩
    obtain ⟨k, e1, e2⟩ := h T kV doc pm an cdv ct us its ws l1 rT.length.symm l2
    refine BindsTo.of_looks fun M => ?_
    rw [e1]
    exact looks_items X lT oT (PySem.W.Looks.of_pure e2)
theorem kbind0 {K : PySem.W.Frag} {x qual : Str} {params : Arguments} {body : List Stmt} {scope : Scope} {f : Addr} {fd : FuncData} {ps : List Str} (F : FunD K x qual params body scope [] [] f fd) (n : Nat) (ks : List Str) (pl : List KwSrc)
    (h : ∀ (kV doc pm : Value) (an : Option Addr) (cdv ct : Value) (us ws : List Value), us.length = n → ws.length = ks.length →
      bindArgs (PySem.W.fnOf x qual params body scope .none kV doc pm an cdv ct) ⟨us, ks.zip ws⟩ = pure (ps.zip (planL .none us [] ws pl))) : ∃ g, KBn K fd ps n ks g fun vs zs => planL .non vs [] zs pl := by
  obtain ⟨oc, od, dV, kV, doc, pm, an, cdv, ct, osl, rfl, lk, hcd, hD, hK⟩ := F.ex
  rcases hD with ⟨_, rfl⟩ | ⟨e, _⟩
  · exact ⟨fun us ws => planL .none us [] ws pl, ⟨fun s us ws X l1 l2 => .of_eq (h kV doc pm an cdv ct us ws l1 l2), fun r1 r2 => plan_rel r1 .nil r2 pl⟩⟩
  · exact absurd rfl e
theorem dvB_ok {K : PySem.W.Frag} {G : Hp} : ∀ {v : He.Dv} {d : D}, dvB K v d = true → Is K G (He.Dv.v K v) d := fun {v d} h => by
  cases v with
  | non => cases d <;> first | exact .non | cases h
  | bl b =>
    cases d with
    | bl c =>
      have e : b = c := by simpa [dvB] using h
      subst e
      exact .bl _
    | _ => cases h
  | int b =>
    cases d with
    | int c =>
      have e : b = c := by simpa [dvB] using h
      subst e
      exact .int _
    | _ => cases h
  | str b =>
    cases d with
    | str c =>
      have e : b = c := by simpa [dvB] using h
      subst e
      exact .str _
    | _ => cases h
  | glo x => exact (isB_ok (G := G) (u := .ref (He.ga K x)) (by cases d <;> exact h)).2
  | adr p => exact (isB_ok (G := G) (u := .ref (p K)) (by cases d <;> exact h)).2
  | byt b => cases d <;> cases h
  | flt b => cases d <;> cases h
  | ty b => cases d <;> cases h
theorem dvBs_ok {K : PySem.W.Frag} {G : Hp} : ∀ {vs : List He.Dv} {ds : List D}, dvBs K vs ds = true → IsL K G (vs.map (He.Dv.v K)) ds
  | [], [], _ => .nil
  | [], _ :: _, h => by cases h
  | _ :: _, [], h => by cases h
  | v :: vs, d :: ds, h => by
    obtain ⟨h1, h2⟩ := Bool.and_eq_true_iff.mp (show (dvB K v d && dvBs K vs ds) = true from h)
    exact .cons (dvB_ok h1) (dvBs_ok h2)
theorem find_mem {α : Type} {p : α → Bool} {a : α} {l : List α} (h : l.find? p = some a) : a ∈ l ∧ p a = true := ⟨List.mem_of_find?_eq_some h, List.find?_some h⟩
theorem lookup_mem' {β : Type} {x : Str} {b : β} : ∀ {l : List (Str × β)}, l.lookup x = some b → (x, b) ∈ l
  | [], h => by cases h
  | (y, c) :: r, h => by
    rw [List.lookup_cons] at h
    cases q : x == y with
    | true =>
      rw [q] at h
      rw [beq_iff_eq.mp q, Option.some.inj h]
      exact List.mem_cons_self
    | false =>
      rw [q] at h
      exact List.mem_cons_of_mem _ (lookup_mem' h)
section
variable {p : Prg} {P : Program} {w : World} {K : PySem.W.Frag} {mg : Str → Option Value} {base h : Heap}
theorem tab_ok (X : K.In h) (G : h.Ns mainGlobals mg) (c : He.SaysD p.fa p.fn K) (ex : p.exB K = true) (ce : p.ents.all entC = true) (cx : p.exns.all exnC = true) (be : ∀ e ∈ p.ents, BindP e.d e.ps e.dfs.length ∧ BindK e.d e.ps e.dfs.length e.kws) (bx : ∀ e ∈ p.exns, BindP e.d e.ps 0) (cg : p.gens.all genC = true) (bg : ∀ e ∈ p.gens, BindP e.d e.ps 0) :
    TabOk p.tab P w K mg base := by
  unfold Prg.exB at ex
  simp only [Bool.and_eq_true] at ex
  obtain ⟨⟨⟨⟨x1, x2⟩, x3⟩, x4⟩, x5⟩ := ex
  have gloE : ∀ e ∈ p.ents, mg e.x = some (.ref (He.ga K e.x)) := fun e he => He.glo_ok X G (c.facts (f := .glo e.x) (List.mem_append_left _ (List.mem_map_of_mem (f := fun e : Ent => He.Fa.glo e.x) he)))
  have gloX : ∀ e ∈ p.exns, mg e.x = some (.ref (He.ga K e.x)) := fun e he => He.glo_ok X G (c.facts (f := .glo e.x) (List.mem_append_right _ (List.mem_append_left _ (List.mem_map_of_mem (f := fun e : Exn => He.Fa.glo e.x) he))))
  have oth : ∀ x, (∀ e, p.exn x = some e → p.tab.oth x = .ex) ∧ (p.exn x = none → (∀ d, p.cons.lookup x = some d → p.tab.oth x = .con d) ∧ (p.cons.lookup x = none → (∀ i, p.bfns.lookup x = some i → p.tab.oth x = .bfn i) ∧ (p.bfns.lookup x = none → p.tab.oth x = if p.frees.contains x then .free else if (p.gen x).isSome then .gen else .no))) := fun x =>
    ⟨fun e q => by simp only [Prg.tab, q], fun q => ⟨fun d q2 => by simp only [Prg.tab, q, q2], fun q2 => ⟨fun i q3 => by simp only [Prg.tab, q, q2, q3], fun q3 => by simp only [Prg.tab, q, q2, q3]⟩⟩⟩
  have cases' : ∀ x, (∃ e, p.exn x = some e ∧ p.tab.oth x = .ex) ∨ (∃ d, p.cons.lookup x = some d ∧ p.tab.oth x = .con d) ∨ (∃ i, p.bfns.lookup x = some i ∧ p.tab.oth x = .bfn i) ∨ p.tab.oth x = if p.frees.contains x then .free else if (p.gen x).isSome then .gen else .no := fun x => by
    obtain ⟨o1, o2⟩ := oth x
    cases q : p.exn x with
    | some e => exact .inl ⟨e, rfl, o1 e q⟩
    | none =>
      obtain ⟨o3, o4⟩ := o2 q
      cases q2 : p.cons.lookup x with
      | some d => exact .inr (.inl ⟨d, rfl, o3 d q2⟩)
      | none =>
        obtain ⟨o5, o6⟩ := o4 q2
        cases q3 : p.bfns.lookup x with
        | some i => exact .inr (.inr (.inl ⟨i, rfl, o5 i q3⟩))
        | none => exact .inr (.inr (.inr (o6 q3)))
  refine ⟨fun x d hx => ?_, fun x _ hx => ?_, fun x id hx => ?_, fun x F hx => ?_, fun x F hx => ?_, fun x hx => ?_, fun x y b hb => ?_, fun x f hf => ?_⟩
  · rcases cases' x with ⟨_, _, q⟩ | ⟨d', q0, q⟩ | ⟨_, _, q⟩ | q
    · rw [hx] at q; cases q
    · rw [hx] at q
      cases q
      have z := List.all_eq_true.mp x3 _ (lookup_mem' q0)
      simp only at z
      split at z
      · rename_i u e
        exact ⟨u, vOf u, PySem.W.mg_of X G e, (isB_ok (G := fun _ => none) z).1, fun G' => (isB_ok z).2⟩
      · cases z
    · rw [hx] at q; cases q
    · rw [hx] at q; split at q <;> first | cases q | (split at q <;> cases q)
  · rcases cases' x with ⟨_, _, q⟩ | ⟨_, _, q⟩ | ⟨_, _, q⟩ | q
    · rw [hx] at q; cases q
    · rw [hx] at q; cases q
    · rw [hx] at q; cases q
    · rw [hx] at q
      split at q
      · rename_i m
        have m' : x ∈ p.frees := by simpa using m
        exact He.free_ok X G (c.facts (f := .free x) (List.mem_append_right _ (List.mem_append_right _ (List.mem_append_left _ (List.mem_map_of_mem (f := He.Fa.free) m')))))
      · split at q <;> cases q
  · rcases cases' x with ⟨_, _, q⟩ | ⟨_, _, q⟩ | ⟨_, q0, q⟩ | q
    · rw [hx] at q; cases q
    · rw [hx] at q; cases q
    · rw [hx] at q
      cases q
      exact PySem.W.mg_of X G (of_decide_eq_true (List.all_eq_true.mp x4 _ (lookup_mem' q0)))
    · rw [hx] at q; split at q <;> first | cases q | (split at q <;> cases q)
  · obtain ⟨e, he, rfl⟩ := map_some (show (p.ent x).map Ent.fn = some F from hx)
    obtain ⟨m, ex'⟩ := find_mem (show p.ents.find? (fun e => e.x == x) = some e from he)
    have exx : e.x = x := beq_iff_eq.mp ex'
    have ce' := List.all_eq_true.mp ce e m
    simp only [entC, Bool.and_eq_true, decide_eq_true_eq] at ce'
    obtain ⟨⟨s1, s2⟩, s3⟩ := ce'
    obtain ⟨fd, FD⟩ := c.defs (d := e.d) (List.mem_append_left _ (List.mem_map_of_mem (f := fun e : Ent => e.d) m))
    have ea : He.fAd K e.d.at_ = He.ga K e.x := by rw [s2]; rfl
    rw [ea] at FD
    have ekw : e.d.kws K = [] := by
      have : e.d.kwd = [] := List.isEmpty_iff.mp s3
      unfold He.DefD.kws
      rw [this]
      rfl
    rw [ekw] at FD
    have il : ∀ G', IsL K G' (e.d.dvs K) e.dfs := fun G' => dvBs_ok (List.all_eq_true.mp x1 e m)
    refine ⟨He.ga K e.x, fd, e.ps, e.d.name, e.d.qual, e.d.params, e.d.dvs K, [], by rw [← exx]; exact gloE e m, FD, fnScope_by s1, rfl, fun n ds hd => ?_, fun n ks pl dfs hk => ?_⟩
    have hd' : ((p.ent x).bind fun e => if decide (e.ps.length ≤ n + e.dfs.length) && decide (n ≤ e.ps.length) then some (e.dfs.drop (n + e.dfs.length - e.ps.length)) else none) = some ds := hd
    rw [he] at hd'
    simp only [Option.bind_some] at hd'
    split at hd'
    · rename_i cc
      cases hd'
      simp only [Bool.and_eq_true, decide_eq_true_eq] at cc
      obtain ⟨us, hv, hb⟩ := (be e m).1 K (e.d.dvs K) _ fd FD (il (fun _ => none)).length (n + e.dfs.length - e.ps.length) (by omega)
      exact ⟨us, _, hb, hv, fun G' => (il G').drop _⟩
    · cases hd'
    · have hk' : ((p.ent x).bind fun e => (e.kws.find? fun q => q.1 == n && q.2.1 == ks).map fun q => (q.2.2, e.dfs)) = some (pl, dfs) := hk
      rw [he] at hk'
      obtain ⟨q, hq, eq⟩ := map_some hk'
      cases eq
      obtain ⟨mq, eq2⟩ := find_mem hq
      obtain ⟨q1, q2⟩ := Bool.and_eq_true_iff.mp eq2
      have q1' : q.1 = n := beq_iff_eq.mp q1
      have q2' : q.2.1 = ks := beq_iff_eq.mp q2
      subst q1' q2'
      obtain ⟨g, hb⟩ := (be e m).2 K (e.d.dvs K) _ fd FD (il (fun _ => none)).length q mq
      exact ⟨g, _, hb, fun G' vs zs ds es r1 r2 _ _ => plan_is r1 (il G') r2 _⟩
  · obtain ⟨e, he, rfl⟩ := map_some (show (p.gen x).map Ent.fn = some F from hx)
    obtain ⟨m, ex'⟩ := find_mem (show p.gens.find? (fun e => e.x == x) = some e from he)
    have exx : e.x = x := beq_iff_eq.mp ex'
    have ce' := List.all_eq_true.mp cg e m
    simp only [genC, Bool.and_eq_true, decide_eq_true_eq] at ce'
    obtain ⟨⟨⟨s1, s2⟩, s3⟩, s4⟩ := ce'
    obtain ⟨fd, FD⟩ := c.defs (d := e.d) (List.mem_append_right _ (List.mem_append_right _ (List.mem_map_of_mem (f := fun e : Ent => e.d) m)))
    have ea : He.fAd K e.d.at_ = He.ga K e.x := by rw [s2]; rfl
    rw [ea] at FD
    have ekw : e.d.kws K = [] := by
      have : e.d.kwd = [] := List.isEmpty_iff.mp s3
      unfold He.DefD.kws
      rw [this]
      rfl
    have edv : e.d.dvs K = [] := by
      have : e.d.dfl = [] := List.isEmpty_iff.mp s4
      unfold He.DefD.dvs
      rw [this]
      rfl
    rw [ekw, edv] at FD
    obtain ⟨us, hv, hb⟩ := bg e m K [] _ fd FD rfl 0 (Nat.le_refl 0)
    cases hv
    have gl : mg e.x = some (.ref (He.ga K e.x)) := He.glo_ok X G (c.facts (f := .glo e.x) (List.mem_append_right _ (List.mem_append_right _ (List.mem_append_right _ (List.mem_map_of_mem (f := fun e : Ent => He.Fa.glo e.x) m)))))
    exact ⟨He.ga K e.x, fd, e.ps, e.d.name, e.d.qual, e.d.params, by rw [← exx]; exact gl, FD, gScope_by s1, rfl, hb⟩
  · rcases cases' x with ⟨e, he, q⟩ | ⟨_, _, q⟩ | ⟨_, _, q⟩ | q
    · obtain ⟨m, ex'⟩ := find_mem (show p.exns.find? (fun e => e.x == x) = some e from he)
      have exx : e.x = x := beq_iff_eq.mp ex'
      subst exx
      refine ⟨He.ga K e.x, gloX e m, fun M hM => ?_⟩
      have cx' := List.all_eq_true.mp cx e m
      simp only [exnC, Bool.and_eq_true, decide_eq_true_eq, Bool.not_eq_true'] at cx'
      obtain ⟨⟨⟨⟨⟨⟨s1, s2⟩, s3⟩, s4⟩, s5⟩, s6⟩, s7⟩ := cx'
      have xb := List.all_eq_true.mp x2 e m
      simp only [exnB, Bool.and_eq_true, decide_eq_true_eq] at xb
      obtain ⟨⟨⟨⟨b0, b1⟩, b2⟩, b3⟩, b4⟩ := xb
      obtain ⟨fd, FD⟩ := c.defs (d := e.d) (List.mem_append_right _ (List.mem_append_left _ (List.mem_map_of_mem (f := fun e : Exn => e.d) m)))
      have ekw : e.d.kws K = [] := by
        have : e.d.kwd = [] := List.isEmpty_iff.mp s2
        unfold He.DefD.kws
        rw [this]
        rfl
      have edv : e.d.dvs K = [] := by
        have : e.d.dfl = [] := List.isEmpty_iff.mp s3
        unfold He.DefD.dvs
        rw [this]
        rfl
      rw [ekw, edv] at FD
      obtain ⟨us, hv, hb⟩ := bx e m K [] _ fd FD rfl 0 (Nat.le_refl 0)
      cases hv
      refine mkx_ok FD (fnScope_by s1) s4 (fun z => by rw [z] at s5; cases s5) s6 (fun q hq => ?_) (oexB_ok b1) (fun q hq => ?_) b3 b4 hb fun ds => ?_
      · have z := List.all_eq_true.mp s7 q hq
        simpa using z
      · exact of_decide_eq_true (List.all_eq_true.mp b2 q hq)
      · rw [hM]
        show ((p.exn e.x).bind fun e => mkxOf e.ps.length e.fs ds) = _
        rw [he]
        rfl
    · rw [hx] at q; cases q
    · rw [hx] at q; cases q
    · rw [hx] at q; split at q <;> first | cases q | (split at q <;> cases q)
  · obtain ⟨q, hq, rfl⟩ := map_some (show (p.subs.find? fun q => q.1.1 == x && q.1.2 == y).map (·.2) = some b from hb)
    obtain ⟨m, e⟩ := find_mem hq
    obtain ⟨e1, e2⟩ := Bool.and_eq_true_iff.mp e
    have e1' : q.1.1 = x := beq_iff_eq.mp e1
    have e2' : q.1.2 = y := beq_iff_eq.mp e2
    have z := List.all_eq_true.mp x5 q m
    simp only [Bool.and_eq_true, decide_eq_true_eq] at z
    obtain ⟨⟨z1, z2⟩, z3⟩ := z
    rw [← e1', ← e2']
    exact ⟨_, _, PySem.W.mg_of X G z1, PySem.W.mg_of X G z2, z3⟩
  · have hf' : ((p.exn x).any fun e => e.fs.any fun q => q.1 == f) = true := hf
    cases he : p.exn x with
    | none => rw [he] at hf'; cases hf'
    | some e =>
      rw [he] at hf'
      obtain ⟨m, ex'⟩ := find_mem (show p.exns.find? (fun e => e.x == x) = some e from he)
      have exx : e.x = x := beq_iff_eq.mp ex'
      subst exx
      obtain ⟨q, hq, eq⟩ := List.any_eq_true.mp (show (e.fs.any fun q => q.1 == f) = true from hf')
      have eqf : q.1 = f := beq_iff_eq.mp eq
      have xb := List.all_eq_true.mp x2 e m
      simp only [exnB, Bool.and_eq_true, decide_eq_true_eq] at xb
      obtain ⟨⟨⟨⟨b0, b1⟩, b2⟩, b3⟩, b4⟩ := xb
      refine ⟨_, gloX e m, xfB_ok b0, ?_⟩
      rw [← eqf]
      exact of_decide_eq_true (List.all_eq_true.mp b2 q hq)
/-- the script's ints -/
theorem isL_ints {G : Hp} : ∀ ns : List Int, IsL K G (ns.map V.int) (ns.map D.int)
  | [] => .nil
  | n :: ns => .cons (.int n) (isL_ints ns)
/-- the law's promise, by the evaluator's answer -/
theorem law_sp {M : Mdl} {x : Str} {H : Hp} {a : Addr} {ns : List Int} (hS : SqL K H a (ns.map V.int)) (h : ∃ as, M.call x [.fz (.scr (ns.map D.int))] = .ret (.bl true) false as) : spF mg K M x 1 [.ref a] H (fun v _ => v = .bl true) fun _ _ _ => False := by
  obtain ⟨as, e⟩ := h
  refine ⟨H, [.fz (.scr (ns.map D.int))], rfl, ⟨Same.refl _, rfl, fun i s q => ?_, fun i j b o1 o2 => ?_⟩, ?_⟩
  · match i, q with
    | 0, q =>
      cases q
      exact ⟨.ref a, rfl, .scr hS (isL_ints ns)⟩
    | i + 1, q => simp at q
  · obtain ⟨m, d, z, _⟩ := o1
    match i, z with
    | 0, z => cases z
    | i + 1, z => simp at z
  · rw [e]
    intro v G' H' _ _ hr
    cases (show Is K G' v (.bl true) from hr)
    rfl
theorem cx_no {w : World} {H : Hp} {s : Shared} {e : Value} {s' : Shared} : L2.CX P w [] H s (fun _ _ _ => False) e s' → False := fun ⟨_, _, _, _, _, _, _, _, _, _, _, _, z⟩ => z
end
end VE
end

section
set_option Elab.async false
set_option linter.all false
set_option maxRecDepth 100000
set_option maxHeartbeats 1000000
/-! VE20: a law's end. -/
namespace VE
open PySem PySem.Spec L2 PySem.HandSPX
open C8 (scC fnScope_by)
section
variable {p : Prg} {l : PySem.W.OpenLaw} {w : World} {K : PySem.W.Frag} {mg : Str → Option Value} {h : Heap} {e : Ent} {x y : Str} {fa : Addr} {n k m : Nat}
theorem mdl_call {T : Tab} {F : Fn} (hx : T.fns y = some F) (sls : List Sl) : (mdl T n (k + 1)).call y sls = callF (mdl T n k) n F sls := by
  cases k with
  | zero =>
    show (match T.fns y with | some F => callF (mdl T n 0) n F sls | none => .stuck) = _
    rw [hx]
  | succ c =>
    match c with
    | 0 =>
      show (match T.fns y with | some F => callF (mdl T n 1) n F sls | none => .stuck) = _
      rw [hx]
    | 1 =>
      show (match T.fns y with | some F => callF (mdl T n 2) n F sls | none => .stuck) = _
      rw [hx]
    | c + 2 =>
      show (match T.fns y with | some F => callF (mdl T n (c + 3)) n F sls | none => .stuck) = _
      rw [hx]
theorem law_at (X : K.In h) (G : h.Ns mainGlobals mg) (hmg : mg y = some (.ref fa)) (c : He.SaysD p.fa p.fn K) (ex : p.exB K = true) (ce : p.ents.all entC = true) (cx : p.exns.all exnC = true) (be : ∀ e ∈ p.ents, BindP e.d e.ps e.dfs.length ∧ BindK e.d e.ps e.dfs.length e.kws) (bx : ∀ e ∈ p.exns, BindP e.d e.ps 0) (cg : p.gens.all genC = true) (bg : ∀ e ∈ p.gens, BindP e.d e.ps 0)
    (he : p.ent y = some e) (hps : e.ps = [x]) (hd0 : e.d.dfl = [])
    (hb : ∀ (kV doc pm : Value) (an : Option Addr) (cdv ct : Value) (us : List Value), us.length = 1 → bindArgs (PySem.W.fnOf e.d.name e.d.qual e.d.params e.d.body e.d.scope .none kV doc pm an cdv ct) ⟨us, []⟩ = pure ([x].zip us))
    (plain : ∀ ns : List Int, ns.length ≤ m → (∀ z ∈ ns, Builtin.Int.intBits z ≤ 1048576) → ∃ as, (mdl p.tab n (k + 1)).call y [.fz (.scr (ns.map D.int))] = .ret (.bl true) false as) :
    LamX.LawAtS l w K (L2.CX l.prog w) (k + 1) m x mg fa h := by
  obtain ⟨mm, ex'⟩ := find_mem (show p.ents.find? (fun e => e.x == y) = some e from he)
  have exx : e.x = y := beq_iff_eq.mp ex'
  have ce' := List.all_eq_true.mp ce e mm
  simp only [entC, Bool.and_eq_true, decide_eq_true_eq] at ce'
  obtain ⟨⟨s1, s2⟩, s3⟩ := ce'
  obtain ⟨fd, FD⟩ := c.defs (d := e.d) (List.mem_append_left _ (List.mem_map_of_mem (f := fun e : Ent => e.d) mm))
  have ea : He.fAd K e.d.at_ = He.ga K e.x := by rw [s2]; rfl
  rw [ea] at FD
  have gl : mg e.x = some (.ref (He.ga K e.x)) := He.glo_ok X G (c.facts (f := .glo e.x) (List.mem_append_left _ (List.mem_map_of_mem (f := fun e : Ent => He.Fa.glo e.x) mm)))
  rw [exx, hmg] at gl
  cases gl
  have ekw : e.d.kws K = [] := by
    have : e.d.kwd = [] := List.isEmpty_iff.mp s3
    unfold He.DefD.kws
    rw [this]
    rfl
  have edv : e.d.dvs K = [] := by
    unfold He.DefD.dvs
    rw [hd0]
    rfl
  rw [ekw, edv, exx] at FD
  have hx : p.tab.fns y = some e.fn := by
    show (p.ent y).map Ent.fn = _
    rw [he]
    rfl
  refine ⟨fd, [], spF mg K (mdl p.tab n (k + 1)) y [x].length, (fun _ q => by cases q), (fun _ q => by cases q), (fun _ q => by cases q), fun s u => FD.bindsA (ps := [x]) hb s [u] rfl, fun H a ns hl hbits _ hS => law_sp hS (plain ns hl hbits), fun base _ _ _ => ?_⟩
  exact fn_ok' (F := e.fn) (ps := [x]) FD (by rw [← hps]; exact fnScope_by s1) (by show 1 = e.ps.length; rw [hps]; rfl) (md_ok (tab_ok X G c ex ce cx be bx cg bg) k) fun sls => mdl_call hx sls
end
end VE
end

section
set_option Elab.async false
set_option linter.all false
set_option maxRecDepth 100000
set_option maxHeartbeats 1000000
/-! VX: the evaluator's steps with names already resolved. -/
namespace VE
open PySem PySem.Spec L2

abbrev XE := Ro → Rs Bv
abbrev XT := Ro → Rs Bool
abbrev XL := Ro → Rs (List D)
abbrev XA := Ro → Rs (List Bv)
abbrev XS := Ro → Rf
def xVar (i : Nat) : XE := fun ρ => match ρ[i]? with
  | some (.fz d) => .ok (.va d false) ρ
  | some (.pz d) => .ok (.va d false) ρ
  | some (.ow _ _) => .ok (.at i) ρ
  | _ => .stuck
def xC (d : D) : XE := fun ρ => .ok (.va d false) ρ
def xBin (op : Operator) (a b : XE) : XE := fun ρ => (a ρ).bind fun x ρ1 => (b ρ1).bind fun y ρ2 =>
  Rs.of ((deref ρ2 x).bind fun dx => (deref ρ2 y).bind fun dy => (binD op dx dy).map fun z => Bv.va z.1 z.2) ρ2
def xNeg (a : XE) : XE := fun ρ => (a ρ).bind fun x ρ1 => (match deref ρ1 x with
  | some (.int i) => .ok (.va (.int (-i)) false) ρ1
  | _ => .stuck)
def xNot (a : XE) : XE := fun ρ => (a ρ).bind fun x ρ1 => Rs.of (((deref ρ1 x).bind truD).map fun b => Bv.va (.bl (!b)) false) ρ1
def xAnd (a b : XE) : XE := fun ρ => (a ρ).bind fun x ρ1 => (match (deref ρ1 x).bind truD with
  | none => .stuck
  | some k => if k then b ρ1 else .ok x ρ1)
def xOr (a b : XE) : XE := fun ρ => (a ρ).bind fun x ρ1 => (match (deref ρ1 x).bind truD with
  | none => .stuck
  | some k => if k then .ok x ρ1 else b ρ1)
def xIte (c : XT) (a b : XE) : XE := fun ρ => (c ρ).bind fun k ρ1 => if k then a ρ1 else b ρ1
def xCmp (op : CmpOp) (a b : XE) : XE := fun ρ => (a ρ).bind fun x ρ1 => (b ρ1).bind fun y ρ2 =>
  Rs.of ((deref ρ2 x).bind fun dx => (deref ρ2 y).bind fun dy => (cmpD op dx dy).map fun z => Bv.va (.bl z) false) ρ2
def xCmp2 (op op' : CmpOp) (a b c : XE) : XE := fun ρ => (a ρ).bind fun x ρ1 => (b ρ1).bind fun y ρ2 =>
  (match (deref ρ2 x).bind fun dx => (deref ρ2 y).bind fun dy => cmpD op dx dy with
    | none => .stuck
    | some k => if k then (c ρ2).bind fun z ρ3 =>
        Rs.of ((deref ρ3 y).bind fun dy => (deref ρ3 z).bind fun dz => (cmpD op' dy dz).map fun r => Bv.va (.bl r) false) ρ3
      else .ok (.va (.bl false) false) ρ2)
def xNil : XL := fun ρ => .ok [] ρ
def xCons (a : XE) (r : XL) : XL := fun ρ => (a ρ).bind fun b ρ1 => (whole b ρ1).bind fun d ρ2 => (r ρ2).bind fun ds ρ3 => .ok (d :: ds) ρ3
def xTup (es : XL) : XE := fun ρ => (es ρ).bind fun ds ρ1 => if szOk ds.length then .ok (.va (.tup ds) false) ρ1 else .stuck
def xLst (es : XL) : XE := fun ρ => (es ρ).bind fun ds ρ1 => if szOk ds.length then .ok (.va (.lst ds) true) ρ1 else .stuck
def xIx (a s : XE) : XE := fun ρ => (a ρ).bind fun x ρ1 => (s ρ1).bind fun y ρ2 =>
  Rs.of ((deref ρ2 x).bind fun dx => (deref ρ2 y).bind fun dy => (ixD dx dy).map fun z => Bv.va z false) ρ2
def xPart (a : XE) : Ro → Rs (Option Int) := fun ρ => (a ρ).bind fun b ρ1 => (match deref ρ1 b with
  | some (.int i) => .ok (some i) ρ1
  | _ => .stuck)
def xPart0 : Ro → Rs (Option Int) := fun ρ => .ok none ρ
def xCut (a : XE) (lo hi : Ro → Rs (Option Int)) : XE := fun ρ => (a ρ).bind fun x ρ1 => (lo ρ1).bind fun l ρ2 => (hi ρ2).bind fun h ρ3 =>
  Rs.of ((deref ρ3 x).bind fun dx => (cutD dx l h).map fun z => Bv.va z.1 z.2) ρ3
def xFmt (a : XE) : XE := fun ρ => (a ρ).bind fun x ρ1 => Rs.of (((deref ρ1 x).bind toStrD).map fun y => Bv.va (.str y) false) ρ1
def xJ0 : Str → Ro → Rs Str := fun acc ρ => .ok acc ρ
def xJ (a : XE) (r : Str → Ro → Rs Str) : Str → Ro → Rs Str := fun acc ρ => (a ρ).bind fun b ρ1 => (match deref ρ1 b with
  | some (.str y) => if szOk (acc ++ y).length then r (acc ++ y) ρ1 else .stuck
  | _ => .stuck)
def xJoin (r : Str → Ro → Rs Str) : XE := fun ρ => (r Str.empty ρ).bind fun w ρ1 => .ok (.va (.str w) false) ρ1
def xANil : XA := fun ρ => .ok [] ρ
def xACons (a : XE) (r : XA) : XA := fun ρ => (a ρ).bind fun b ρ1 => (r ρ1).bind fun bs ρ3 => .ok ((match b with | .at i => .at i | .va d _ => .va d false) :: bs) ρ3
def xOwn (C : List Sl → Cr) (ds : List D) (args : XA) : XE := fun ρ => (args ρ).bind fun bs ρ1 => (match lend ρ1 bs with
  | none => .stuck
  | some sls => (match C (sls ++ ds.map .fz) with
    | .stuck => .stuck
    | .ret d b as => .ok (.va d b) (giveBack bs as ρ1)
    | .exc c fs as => .exc c fs (giveBack bs as ρ1)))
def xKw0 : XL := fun ρ => .ok [] ρ
def xKw (C : List Sl → Cr) (n m : Nat) (pl : List KwSrc) (dfs : List D) (args kws : XL) : XE := fun ρ => (args ρ).bind fun ds ρ1 => (kws ρ1).bind fun es ρ2 => if decide (ds.length = n) && decide (es.length = m) then (match C ((planL .non ds dfs es pl).map .fz) with
  | .stuck => .stuck
  | .ret d b as => .ok (.va d b) ρ2
  | .exc c fs as => .exc c fs ρ2) else .stuck
def xGcd (args : XA) : XE := fun ρ => (args ρ).bind fun bs ρ1 => (match bs.mapM (deref ρ1) with
  | some [.int a, .int b] => .ok (.va (.int ((Nat.gcd a.natAbs b.natAbs : Nat) : Int)) false) ρ1
  | _ => .stuck)
def xBi (f : Str) (args : XA) : XE := fun ρ => (args ρ).bind fun bs ρ1 => Rs.of (((bs.mapM (deref ρ1)).bind (biD f)).map fun z => Bv.va z.1 z.2) ρ1
def xIsi (a : XE) (xs : List Str) : XE := fun ρ => (a ρ).bind fun b ρ1 => Rs.of ((((deref ρ1 b).bind tyD).bind fun t => isiD t xs).map fun r => Bv.va (.bl r) false) ρ1
def xApp (i : Nat) (a : XE) : XE := fun ρ => (xVar i ρ).bind fun x ρ1 => (match x with
  | .at i => (match ρ1[i]? with
    | some (.ow _ (.lst _)) => (a ρ1).bind fun v ρ2 => (whole v ρ2).bind fun d ρ3 => (match ρ3[i]? with
      | some (.ow md (.lst xs)) => if decide (md ≠ .lck) && decide (xs.length < sizeLine) then .ok (.va .non false) (ρ3.set i (.ow md (.lst (xs ++ [d])))) else .stuck
      | _ => .stuck)
    | _ => .stuck)
  | _ => .stuck)
def xPop (i : Nat) : XE := fun ρ => (xVar i ρ).bind fun x ρ1 => (match x with
  | .at i => popS i ρ1
  | _ => .stuck)
def xTupRev (a : XE) : XE := fun ρ => (a ρ).bind fun b ρ1 => (match deref ρ1 b with
  | some (.lst xs) => if szOk xs.length then .ok (.va (.tup xs.reverse) false) ρ1 else .stuck
  | _ => .stuck)
def xLGen (g : List D → Option (List D)) (es : XL) : XE := fun ρ => (match es ρ with
  | .ok ds ρ1 => (match g ds with
    | some ys => .ok (.va (.lst ys) true) ρ1
    | none => .stuck)
  | _ => .stuck)
/-! walks -/
abbrev XI := Ro → Rs (List D × List (Nat × Md))
def iGen (a : XE) : XI := fun ρ => (a ρ).bind fun b ρ1 => Rs.of (walkB b ρ1) ρ1
def iRng1 (a : XE) : XI := fun ρ => (a ρ).bind fun b ρ1 => (match deref ρ1 b with
  | some (.int j) => if small62 j then .ok (rngD 0 j.toNat, []) ρ1 else .stuck
  | _ => .stuck)
def iRng2 (a b : XE) : XI := fun ρ => (a ρ).bind fun x ρ1 => (b ρ1).bind fun y ρ2 => (match deref ρ2 x, deref ρ2 y with
  | some (.int i), some (.int j) => if small62 i && small62 j then .ok (rngD i (j - i).toNat, []) ρ2 else .stuck
  | _, _ => .stuck)
def iRev (a : XE) : XI := fun ρ => (a ρ).bind fun b ρ1 => Rs.of ((walkL b ρ1).map fun w => (w.1.reverse, w.2)) ρ1
def iEnu (a : XE) : XI := fun ρ => (a ρ).bind fun b ρ1 => Rs.of ((walkL b ρ1).map fun w => (enumD w.1, w.2)) ρ1
def iZip (a b : XE) : XI := fun ρ => (a ρ).bind fun x ρ1 => (b ρ1).bind fun y ρ2 => Rs.of ((walkL x ρ2).bind fun w => (walkL y ρ2).bind fun u => if decide ((w.2 ++ u.2).map (·.1)).Nodup then some (zipD w.1 u.1, w.2 ++ u.2) else none) ρ2
/-! stores to resolved places -/
def stI (i : Nat) (s : Sl) (ρ : Ro) : Option Ro := if mayStore ρ[i]? then some (ρ.set i s) else none
def agI (i : Nat) : D → Ro → Option Ro := fun d ρ => stI i (.fz d) ρ
def agL : List Nat → List D → Ro → Option Ro
  | [], [], ρ => some ρ
  | i :: is, d :: ds, ρ => (stI i (.fz d) ρ).bind fun ρ1 => agL is ds ρ1
  | _, _, _ => none
def agT (is : List Nat) : D → Ro → Option Ro := fun d ρ => match d with
  | .tup ds => agL is ds ρ
  | _ => none
def putI (i : Nat) (b : Bv) (ρ : Ro) : Rf := match b with
  | .va d true => Rf.of (stI i (.ow .own d) ρ)
  | .va d false => Rf.of (stI i (.fz d) ρ)
  | .at j => (whole (.at j) ρ).toF fun d ρ1 => Rf.of (stI i (.fz d) ρ1)
def xComp (idx : List Nat) (it : XI) (asg : D → Ro → Option Ro) (test : XT) (elt : XE) : XE := fun ρ => (it ρ).bind fun w ρ1 => if idx.all (fun i => flatSl (lockAll w.2 ρ1)[i]?) then
  (match loopC idx asg test elt w.1 [] (wipeR idx (lockAll w.2 ρ1)) with
  | .ok ds ρ2 => .ok (.va (.lst ds) true) (unlockAll w.2 (unwipe (lockAll w.2 ρ1) idx ρ2))
  | _ => .stuck) else .stuck
/-! tests -/
def tE (a : XE) : XT := fun ρ => (a ρ).bind fun x ρ1 => Rs.of ((deref ρ1 x).bind truD) ρ1
def tYes : XT := fun ρ => .ok true ρ
def tNot (a : XT) : XT := fun ρ => (a ρ).bind fun b ρ1 => .ok (!b) ρ1
def tAnd (a b : XT) : XT := fun ρ => (a ρ).bind fun k ρ1 => if k then b ρ1 else .ok false ρ1
def tOr (a b : XT) : XT := fun ρ => (a ρ).bind fun k ρ1 => if k then .ok true ρ1 else b ρ1
def tCm (a : XE) : XT := fun ρ => (a ρ).bind fun x ρ1 => (match x with
  | .va (.bl b) _ => .ok b ρ1
  | _ => .stuck)
/-! statements -/
def sNil : XS := fun ρ => .next ρ
def sCons (a b : XS) : XS := fun ρ => match a ρ with
  | .next ρ1 => b ρ1
  | q => q
def sSet (i : Nat) (a : XE) : XS := fun ρ => (a ρ).toF fun b ρ1 => putI i b ρ1
def sSetT (asg : D → Ro → Option Ro) (a : XE) : XS := fun ρ => (a ρ).toF fun b ρ1 => (whole b ρ1).toF fun d ρ2 => Rf.of (asg d ρ2)
def sPar (i j : Nat) (a : XL) : XS := fun ρ => (a ρ).toF fun ds ρ1 => (match ds with
  | [d, e] => Rf.of ((stI i (.fz d) ρ1).bind fun ρ2 => stI j (.fz e) ρ2)
  | _ => .stuck)
def sSub (o ix a : XE) : XS := fun ρ => (a ρ).toF fun b ρ1 => (whole b ρ1).toF fun d ρ2 => (o ρ2).toF fun t ρ3 => (match t with
  | .at i => (ix ρ3).toF fun j ρ4 => (match deref ρ4 j, ρ4[i]? with
    | some (.int k), some (.ow md (.lst xs)) => (match ixN xs.length k with
      | some n => if md ≠ .lck then .next (ρ4.set i (.ow md (.lst (xs.set n d)))) else .stuck
      | none => .stuck)
    | _, _ => .stuck)
  | _ => .stuck)
def sAug (i : Nat) (f : Int → Int → Int) (a : XE) : XS := fun ρ => (match ρ[i]? with
  | some (.fz (.int k)) => (a ρ).toF fun b ρ1 => (match deref ρ1 b with
    | some (.int m) => Rf.of (stI i (.fz (.int (f k m))) ρ1)
    | _ => .stuck)
  | _ => .stuck)
def sDrop (a : XE) : XS := fun ρ => (a ρ).toF fun _ ρ1 => .next ρ1
def sRet (a : XE) : XS := fun ρ => (a ρ).toF fun b ρ1 => .ret b ρ1
def sRetN : XS := fun ρ => .ret (.va .non false) ρ
def sBrk : XS := fun ρ => .brk ρ
def sCnt : XS := fun ρ => .cnt ρ
def sIf (c : XT) (a b : XS) : XS := fun ρ => (c ρ).toF fun k ρ1 => if k then a ρ1 else b ρ1
def sFor (it : XI) (asg : D → Ro → Option Ro) (body : XS) : XS := fun ρ => (it ρ).toF fun w ρ1 => (loopF asg body w.1 (lockAll w.2 ρ1)).map (unlockAll w.2)
def sWhile (c : XT) (body : XS) : XS := fun ρ => loopW c body 1000000 ρ
def sRaise (x : Str) (mk : List D → Option (List (Str × D))) (a : XL) : XS := fun ρ => (a ρ).toF fun ds ρ1 => (match mk ds with
  | some fs => .exc x fs ρ1
  | none => .stuck)
/-! generators -/
abbrev XG := List D → Ro → Rg
def gYield (a : XE) : XG := fun ys ρ => (match a ρ with
  | .ok b ρ1 => (match whole b ρ1 with
    | .ok d ρ2 => if ys.length < sizeLine then Rg.next (ys ++ [d]) ρ2 else .stuck
    | _ => .stuck)
  | _ => .stuck)
def gFor (it : XI) (asg : D → Ro → Option Ro) (body : XG) : XG := fun ys ρ => (match it ρ with
  | .ok w ρ1 => (loopG asg body w.1 ys (lockAll w.2 ρ1)).map (unlockAll w.2)
  | _ => .stuck)
def gPl (s : XS) : XG := fun ys ρ => (match s ρ with
  | .next ρ1 => .next ys ρ1
  | .brk ρ1 => .brk ys ρ1
  | .cnt ρ1 => .cnt ys ρ1
  | _ => .stuck)
def gNil : XG := fun ys ρ => .next ys ρ
def gCons (a b : XG) : XG := fun ys ρ => (match a ys ρ with
  | .next ys1 ρ1 => b ys1 ρ1
  | r => r)
/-! try: one clause -/
abbrev XQ := Str → List (Str × D) → Option D
def qC (d : D) : XQ := fun _ _ => some d
def qFld (fok : Str → Str → Bool) (f : Str) : XQ := fun x fs => if fok x f then fs.lookup f else none
def qNil : Str → List (Str × D) → Option (List D) := fun _ _ => some []
def qCons (a : XQ) (r : Str → List (Str × D) → Option (List D)) : Str → List (Str × D) → Option (List D) := fun x fs => (a x fs).bind fun d => (r x fs).map (d :: ·)
def qTup (r : Str → List (Str × D) → Option (List D)) : XQ := fun x fs => (r x fs).bind fun ds => if szOk ds.length then some (.tup ds) else none
def qLst (r : Str → List (Str × D) → Option (List D)) : XQ := fun x fs => (r x fs).bind fun ds => if szOk ds.length then some (.lst ds) else none
abbrev XQS := Str → List (Str × D) → XS
def qPass : XQS := fun _ _ ρ => .next ρ
def qRetN : XQS := fun _ _ ρ => .ret (.va .non false) ρ
def qRet (q : XQ) : XQS := fun x fs ρ => match q x fs with
  | some d => .ret (.va d false) ρ
  | none => .stuck
def qSet (j : Nat) (q : XQ) : XQS := fun x fs ρ => match q x fs with
  | some d => Rf.of (stI j (.fz d) ρ)
  | none => .stuck
def sTry (isx : Str → Option Bool) (i : Nat) (body : XS) (suite : XQS) : XS := fun ρ => match body ρ with
  | .exc x fs ρ1 => (match isx x with
    | some false => .exc x fs ρ1
    | some true => if flatSl ρ1[i]? then suite x fs (ρ1.set i .un) else .stuck
    | none => .stuck)
  | r => r
end VE
end

section
set_option Elab.async false
set_option linter.all false
set_option maxRecDepth 100000
set_option maxHeartbeats 4000000
namespace LawP
open PySem PySem.Spec L2 VE
def top (i : Nat) : Stmt := PySem.Challenge.pw_alreadytold_k02_whole_wires_and_fillings.main.body.getD i (.Pass ⟨0, 0, 0, 0⟩)
def inner (s : Stmt) (i : Nat) : Stmt := match s with
  | .ClassDef (body := b) .. => b.getD i (.Pass ⟨0, 0, 0, 0⟩)
  | _ => .Pass ⟨0, 0, 0, 0⟩
def d_is_whole : He.DefD := ⟨("is_whole", none), "is_whole", "is_whole", defArgs (top 4), defBody (top 4), defScope (top 4), [.non, .non], []⟩
def e_is_whole : Ent := ⟨"is_whole", ["thing", "low", "high"], ["thing", "low", "high"], d_is_whole, [.non, .non], []⟩
def d_is_name : He.DefD := ⟨("is_name", none), "is_name", "is_name", defArgs (top 7), defBody (top 7), defScope (top 7), [], []⟩
def e_is_name : Ent := ⟨"is_name", ["thing"], ["thing", "sign"], d_is_name, [], []⟩
def d_is_wire : He.DefD := ⟨("is_wire", none), "is_wire", "is_wire", defArgs (top 8), defBody (top 8), defScope (top 8), [], []⟩
def e_is_wire : Ent := ⟨"is_wire", ["thing"], ["thing"], d_is_wire, [], []⟩
def d_count_fillings : He.DefD := ⟨("count_fillings", none), "count_fillings", "count_fillings", defArgs (top 9), defBody (top 9), defScope (top 9), [], []⟩
def e_count_fillings : Ent := ⟨"count_fillings", ["sizes"], ["sizes", "many", "size"], d_count_fillings, [], []⟩
def d_filling_at : He.DefD := ⟨("filling_at", none), "filling_at", "filling_at", defArgs (top 10), defBody (top 10), defScope (top 10), [], []⟩
def e_filling_at : Ent := ⟨"filling_at", ["sizes", "number"], ["sizes", "number", "worths", "rest", "size"], d_filling_at, [], []⟩
def d_fillings_of : He.DefD := ⟨("fillings_of", none), "fillings_of", "fillings_of", defArgs (top 11), defBody (top 11), defScope (top 11), [], []⟩
def e_fillings_of : Ent := ⟨"fillings_of", ["sizes"], ["sizes", "number"], d_fillings_of, [], []⟩
def d_first_wrong : He.DefD := ⟨("first_wrong", none), "first_wrong", "first_wrong", defArgs (top 12), defBody (top 12), defScope (top 12), [.bl false], []⟩
def e_first_wrong : Ent := ⟨"first_wrong", ["sizes", "worths", "unknown"], ["sizes", "worths", "unknown", "place", "size"], d_first_wrong, [.bl false], []⟩
def d_is_filling : He.DefD := ⟨("is_filling", none), "is_filling", "is_filling", defArgs (top 13), defBody (top 13), defScope (top 13), [], []⟩
def e_is_filling : Ent := ⟨"is_filling", ["sizes", "thing"], ["sizes", "thing"], d_is_filling, [], []⟩
def d_filling_number : He.DefD := ⟨("filling_number", none), "filling_number", "filling_number", defArgs (top 14), defBody (top 14), defScope (top 14), [], []⟩
def e_filling_number : Ent := ⟨"filling_number", ["sizes", "filling"], ["sizes", "filling", "number", "place", "size"], d_filling_number, [], []⟩
def d_filling_by_number : He.DefD := ⟨("filling_by_number", none), "filling_by_number", "filling_by_number", defArgs (top 15), defBody (top 15), defScope (top 15), [], []⟩
def e_filling_by_number : Ent := ⟨"filling_by_number", ["sizes", "number"], ["sizes", "number"], d_filling_by_number, [], []⟩
def d__law_hand : He.DefD := ⟨("_law_hand", none), "_law_hand", "_law_hand", defArgs (top 17), defBody (top 17), defScope (top 17), [], []⟩
def e__law_hand : Ent := ⟨"_law_hand", ["_law_script"], ["_law_script", "_law_total", "_law_cells", "_law_cell"], d__law_hand, [], []⟩
def d__law_mixed : He.DefD := ⟨("_law_mixed", none), "_law_mixed", "_law_mixed", defArgs (top 18), defBody (top 18), defScope (top 18), [], []⟩
def e__law_mixed : Ent := ⟨"_law_mixed", ["_law_number_here", "_law_turn"], ["_law_number_here", "_law_turn", "_law_once", "_law_twice"], d__law_mixed, [], []⟩
def d__law_take : He.DefD := ⟨("_law_take", none), "_law_take", "_law_take", defArgs (top 19), defBody (top 19), defScope (top 19), [], []⟩
def e__law_take : Ent := ⟨"_law_take", ["_law_hand_here", "_law_many_here"], ["_law_hand_here", "_law_many_here", "_law_cell", "_law_rest"], d__law_take, [], []⟩
def d__law_many : He.DefD := ⟨("_law_many", none), "_law_many", "_law_many", defArgs (top 20), defBody (top 20), defScope (top 20), [], []⟩
def e__law_many : Ent := ⟨"_law_many", ["_law_sizes"], ["_law_sizes", "_law_many_here", "_law_size"], d__law_many, [], []⟩
def d__law_filling : He.DefD := ⟨("_law_filling", none), "_law_filling", "_law_filling", defArgs (top 21), defBody (top 21), defScope (top 21), [], []⟩
def e__law_filling : Ent := ⟨"_law_filling", ["_law_sizes", "_law_number_here"], ["_law_sizes", "_law_number_here", "_law_out", "_law_back", "_law_size"], d__law_filling, [], []⟩
def d__law_fillings : He.DefD := ⟨("_law_fillings", none), "_law_fillings", "_law_fillings", defArgs (top 22), defBody (top 22), defScope (top 22), [], []⟩
def e__law_fillings : Ent := ⟨"_law_fillings", ["_law_sizes"], ["_law_sizes", "_law_number_here"], d__law_fillings, [], []⟩
def d__law_number : He.DefD := ⟨("_law_number", none), "_law_number", "_law_number", defArgs (top 23), defBody (top 23), defScope (top 23), [], []⟩
def e__law_number : Ent := ⟨"_law_number", ["_law_sizes", "_law_filling_here"], ["_law_sizes", "_law_filling_here", "_law_number_here", "_law_at"], d__law_number, [], []⟩
def d__law_name : He.DefD := ⟨("_law_name", none), "_law_name", "_law_name", defArgs (top 24), defBody (top 24), defScope (top 24), [], []⟩
def e__law_name : Ent := ⟨"_law_name", ["_law_hand_here", "_law_first"], ["_law_hand_here", "_law_first", "_law_word", "_law_step"], d__law_name, [], []⟩
def d__law_tuples : He.DefD := ⟨("_law_tuples", none), "_law_tuples", "_law_tuples", defArgs (top 25), defBody (top 25), defScope (top 25), [], []⟩
def e__law_tuples : Ent := ⟨"_law_tuples", ["_law_thing"], ["_law_thing", "_law_item"], d__law_tuples, [], []⟩
def d__law_odd : He.DefD := ⟨("_law_odd", none), "_law_odd", "_law_odd", defArgs (top 26), defBody (top 26), defScope (top 26), [], []⟩
def e__law_odd : Ent := ⟨"_law_odd", ["_law_hand_here", "_law_bound"], ["_law_hand_here", "_law_bound", "_law_kind"], d__law_odd, [], []⟩
def d__law_rid : He.DefD := ⟨("_law_rid", none), "_law_rid", "_law_rid", defArgs (top 27), defBody (top 27), defScope (top 27), [], []⟩
def e__law_rid : Ent := ⟨"_law_rid", ["_law_hand_here"], ["_law_hand_here"], d__law_rid, [], []⟩
def d__law_lists : He.DefD := ⟨("_law_lists", none), "_law_lists", "_law_lists", defArgs (top 28), defBody (top 28), defScope (top 28), [], []⟩
def e__law_lists : Ent := ⟨"_law_lists", ["_law_hand_here", "_law_thing"], ["_law_hand_here", "_law_thing"], d__law_lists, [], []⟩
def d__law_whole : He.DefD := ⟨("_law_whole", none), "_law_whole", "_law_whole", defArgs (top 29), defBody (top 29), defScope (top 29), [], []⟩
def e__law_whole : Ent := ⟨"_law_whole", ["_law_thing", "_law_low", "_law_high"], ["_law_thing", "_law_low", "_law_high"], d__law_whole, [], []⟩
def d__law_like : He.DefD := ⟨("_law_like", none), "_law_like", "_law_like", defArgs (top 30), defBody (top 30), defScope (top 30), [], []⟩
def e__law_like : Ent := ⟨"_law_like", ["_law_told", "_law_thing"], ["_law_told", "_law_thing"], d__law_like, [], []⟩
def d__law_truth : He.DefD := ⟨("_law_truth", none), "_law_truth", "_law_truth", defArgs (top 31), defBody (top 31), defScope (top 31), [], []⟩
def e__law_truth : Ent := ⟨"_law_truth", ["_law_told", "_law_due"], ["_law_told", "_law_due"], d__law_truth, [], []⟩
def d__law_int : He.DefD := ⟨("_law_int", none), "_law_int", "_law_int", defArgs (top 32), defBody (top 32), defScope (top 32), [], []⟩
def e__law_int : Ent := ⟨"_law_int", ["_law_thing"], ["_law_thing"], d__law_int, [], []⟩
def d__law_is_name : He.DefD := ⟨("_law_is_name", none), "_law_is_name", "_law_is_name", defArgs (top 33), defBody (top 33), defScope (top 33), [], []⟩
def e__law_is_name : Ent := ⟨"_law_is_name", ["_law_thing"], ["_law_thing", "_law_sign"], d__law_is_name, [], []⟩
def d__law_is_wire : He.DefD := ⟨("_law_is_wire", none), "_law_is_wire", "_law_is_wire", defArgs (top 34), defBody (top 34), defScope (top 34), [], []⟩
def e__law_is_wire : Ent := ⟨"_law_is_wire", ["_law_thing"], ["_law_thing"], d__law_is_wire, [], []⟩
def d__law_is_filling : He.DefD := ⟨("_law_is_filling", none), "_law_is_filling", "_law_is_filling", defArgs (top 35), defBody (top 35), defScope (top 35), [], []⟩
def e__law_is_filling : Ent := ⟨"_law_is_filling", ["_law_sizes", "_law_thing"], ["_law_sizes", "_law_thing", "_law_at"], d__law_is_filling, [], []⟩
def d__law_no_wire : He.DefD := ⟨("_law_no_wire", none), "_law_no_wire", "_law_no_wire", defArgs (top 36), defBody (top 36), defScope (top 36), [], []⟩
def e__law_no_wire : Ent := ⟨"_law_no_wire", ["_law_hand_here"], ["_law_hand_here"], d__law_no_wire, [], []⟩
def d__law_no_name : He.DefD := ⟨("_law_no_name", none), "_law_no_name", "_law_no_name", defArgs (top 37), defBody (top 37), defScope (top 37), [], []⟩
def e__law_no_name : Ent := ⟨"_law_no_name", ["_law_hand_here"], ["_law_hand_here"], d__law_no_name, [], []⟩
def d__law_spoilt_row : He.DefD := ⟨("_law_spoilt_row", none), "_law_spoilt_row", "_law_spoilt_row", defArgs (top 38), defBody (top 38), defScope (top 38), [], []⟩
def e__law_spoilt_row : Ent := ⟨"_law_spoilt_row", ["_law_hand_here", "_law_sizes", "_law_row"], ["_law_hand_here", "_law_sizes", "_law_row", "_law_out", "_law_kind", "_law_at"], d__law_spoilt_row, [], []⟩
def d__law_by_number : He.DefD := ⟨("_law_by_number", none), "_law_by_number", "_law_by_number", defArgs (top 39), defBody (top 39), defScope (top 39), [], []⟩
def e__law_by_number : Ent := ⟨"_law_by_number", ["_law_sizes", "_law_number_here"], ["_law_sizes", "_law_number_here", "wrong", "_law_found"], d__law_by_number, [], []⟩
def d__law_its_number : He.DefD := ⟨("_law_its_number", none), "_law_its_number", "_law_its_number", defArgs (top 40), defBody (top 40), defScope (top 40), [], []⟩
def e__law_its_number : Ent := ⟨"_law_its_number", ["_law_sizes", "_law_filling_here"], ["_law_sizes", "_law_filling_here", "wrong", "_law_found"], d__law_its_number, [], []⟩
def d__law_drawn_sizes : He.DefD := ⟨("_law_drawn_sizes", none), "_law_drawn_sizes", "_law_drawn_sizes", defArgs (top 41), defBody (top 41), defScope (top 41), [], []⟩
def e__law_drawn_sizes : Ent := ⟨"_law_drawn_sizes", ["_law_hand_here"], ["_law_hand_here", "_law_sizes", "_law_turn", "_law_size"], d__law_drawn_sizes, [], []⟩
def d_law : He.DefD := ⟨("law", none), "law", "law", defArgs (top 42), defBody (top 42), defScope (top 42), [], []⟩
def e_law : Ent := ⟨"law", ["_law_script"], ["_law_script", "_law_hand_here", "_law_sizes", "_law_many_here", "_law_due", "_law_told", "_law_turn", "_law_number_here", "_law_name_here", "_law_thing", "_law_filling_here", "_law_row", "_law_right", "_law_size", "_law_wire"], d_law, [], []⟩
def dx_NoFilling : He.DefD := ⟨("NoFilling", some "__init__"), "__init__", "NoFilling.__init__", defArgs (inner (top 2) 0), defBody (inner (top 2) 0), defScope (inner (top 2) 0), [], []⟩
def x_NoFilling : Exn := ⟨"NoFilling", ["self", "thing"], ["self", "thing"], dx_NoFilling, [("thing", 1)]⟩
def prg : Prg := ⟨[e_is_whole, e_is_name, e_is_wire, e_count_fillings, e_filling_at, e_first_wrong, e_is_filling, e_filling_number, e_filling_by_number, e__law_hand, e__law_mixed, e__law_take, e__law_many, e__law_filling, e__law_fillings, e__law_number, e__law_name, e__law_tuples, e__law_odd, e__law_rid, e__law_lists, e__law_whole, e__law_like, e__law_truth, e__law_int, e__law_is_name, e__law_is_wire, e__law_is_filling, e__law_no_wire, e__law_no_name, e__law_spoilt_row, e__law_by_number, e__law_its_number, e__law_drawn_sizes, e_law], [x_NoFilling], [("SMALL", .str (PySem.Str.ofString "abcdefghijklmnopqrstuvwxyz"))], [], ["ValueError", "all", "reversed", "tuple", "range", "enumerate", "isinstance", "list", "bool", "len", "int", "str", "abs"], [(("NoFilling", "NoFilling"), true)], [e_fillings_of]⟩
theorem b_d_is_whole : BindP d_is_whole ["thing", "low", "high"] 2 := by
  intro K dvs f fd F h j hj
  have hd : dvs ≠ [] := fun z => by rw [z] at h; cases h
  match j, hj with
  | 0, _ =>
    obtain ⟨ds, h1, h2⟩ := F.binds1 (ps := ["thing", "low", "high"]) 1 0 hd (by rw [h]; rfl) fun T kV doc pm an cdv ct us its h1 h2 => match us, its, h1, h2.trans h with | [_], [_, _], _, _ => ⟨_, rfl, rfl⟩
    exact ⟨ds, h1, h2⟩
  | 1, _ =>
    obtain ⟨ds, h1, h2⟩ := F.binds1 (ps := ["thing", "low", "high"]) 2 1 hd (by rw [h]; rfl) fun T kV doc pm an cdv ct us its h1 h2 => match us, its, h1, h2.trans h with | [_, _], [_, _], _, _ => ⟨_, rfl, rfl⟩
    exact ⟨ds, h1, h2⟩
  | 2, _ =>
    obtain ⟨ds, h1, h2⟩ := F.binds1 (ps := ["thing", "low", "high"]) 3 2 hd (by rw [h]; rfl) fun T kV doc pm an cdv ct us its h1 h2 => match us, its, h1, h2.trans h with | [_, _, _], [_, _], _, _ => ⟨_, rfl, rfl⟩
    exact ⟨ds, h1, h2⟩
  | (n + 3), hj => exact absurd hj (by omega)
theorem b_d_is_name : BindP d_is_name ["thing"] 0 := by
  intro K dvs f fd F h j hj
  have e : dvs = [] := List.length_eq_zero_iff.mp h
  subst e
  obtain rfl : j = 0 := Nat.le_zero.mp hj
  exact ⟨[], .nil, F.bindsN fun _ _ _ _ _ _ us hl => match us, hl with | [_], _ => rfl⟩
theorem b_d_is_wire : BindP d_is_wire ["thing"] 0 := by
  intro K dvs f fd F h j hj
  have e : dvs = [] := List.length_eq_zero_iff.mp h
  subst e
  obtain rfl : j = 0 := Nat.le_zero.mp hj
  exact ⟨[], .nil, F.bindsN fun _ _ _ _ _ _ us hl => match us, hl with | [_], _ => rfl⟩
theorem b_d_count_fillings : BindP d_count_fillings ["sizes"] 0 := by
  intro K dvs f fd F h j hj
  have e : dvs = [] := List.length_eq_zero_iff.mp h
  subst e
  obtain rfl : j = 0 := Nat.le_zero.mp hj
  exact ⟨[], .nil, F.bindsN fun _ _ _ _ _ _ us hl => match us, hl with | [_], _ => rfl⟩
theorem b_d_filling_at : BindP d_filling_at ["sizes", "number"] 0 := by
  intro K dvs f fd F h j hj
  have e : dvs = [] := List.length_eq_zero_iff.mp h
  subst e
  obtain rfl : j = 0 := Nat.le_zero.mp hj
  exact ⟨[], .nil, F.bindsN fun _ _ _ _ _ _ us hl => match us, hl with | [_, _], _ => rfl⟩
theorem b_d_fillings_of : BindP d_fillings_of ["sizes"] 0 := by
  intro K dvs f fd F h j hj
  have e : dvs = [] := List.length_eq_zero_iff.mp h
  subst e
  obtain rfl : j = 0 := Nat.le_zero.mp hj
  exact ⟨[], .nil, F.bindsN fun _ _ _ _ _ _ us hl => match us, hl with | [_], _ => rfl⟩
theorem b_d_first_wrong : BindP d_first_wrong ["sizes", "worths", "unknown"] 1 := by
  intro K dvs f fd F h j hj
  have hd : dvs ≠ [] := fun z => by rw [z] at h; cases h
  match j, hj with
  | 0, _ =>
    obtain ⟨ds, h1, h2⟩ := F.binds1 (ps := ["sizes", "worths", "unknown"]) 2 0 hd (by rw [h]; rfl) fun T kV doc pm an cdv ct us its h1 h2 => match us, its, h1, h2.trans h with | [_, _], [_], _, _ => ⟨_, rfl, rfl⟩
    exact ⟨ds, h1, h2⟩
  | 1, _ =>
    obtain ⟨ds, h1, h2⟩ := F.binds1 (ps := ["sizes", "worths", "unknown"]) 3 1 hd (by rw [h]; rfl) fun T kV doc pm an cdv ct us its h1 h2 => match us, its, h1, h2.trans h with | [_, _, _], [_], _, _ => ⟨_, rfl, rfl⟩
    exact ⟨ds, h1, h2⟩
  | (n + 2), hj => exact absurd hj (by omega)
theorem b_d_is_filling : BindP d_is_filling ["sizes", "thing"] 0 := by
  intro K dvs f fd F h j hj
  have e : dvs = [] := List.length_eq_zero_iff.mp h
  subst e
  obtain rfl : j = 0 := Nat.le_zero.mp hj
  exact ⟨[], .nil, F.bindsN fun _ _ _ _ _ _ us hl => match us, hl with | [_, _], _ => rfl⟩
theorem b_d_filling_number : BindP d_filling_number ["sizes", "filling"] 0 := by
  intro K dvs f fd F h j hj
  have e : dvs = [] := List.length_eq_zero_iff.mp h
  subst e
  obtain rfl : j = 0 := Nat.le_zero.mp hj
  exact ⟨[], .nil, F.bindsN fun _ _ _ _ _ _ us hl => match us, hl with | [_, _], _ => rfl⟩
theorem b_d_filling_by_number : BindP d_filling_by_number ["sizes", "number"] 0 := by
  intro K dvs f fd F h j hj
  have e : dvs = [] := List.length_eq_zero_iff.mp h
  subst e
  obtain rfl : j = 0 := Nat.le_zero.mp hj
  exact ⟨[], .nil, F.bindsN fun _ _ _ _ _ _ us hl => match us, hl with | [_, _], _ => rfl⟩
theorem b_d__law_hand : BindP d__law_hand ["_law_script"] 0 := by
  intro K dvs f fd F h j hj
  have e : dvs = [] := List.length_eq_zero_iff.mp h
  subst e
  obtain rfl : j = 0 := Nat.le_zero.mp hj
  exact ⟨[], .nil, F.bindsN fun _ _ _ _ _ _ us hl => match us, hl with | [_], _ => rfl⟩
theorem b_d__law_mixed : BindP d__law_mixed ["_law_number_here", "_law_turn"] 0 := by
  intro K dvs f fd F h j hj
  have e : dvs = [] := List.length_eq_zero_iff.mp h
  subst e
  obtain rfl : j = 0 := Nat.le_zero.mp hj
  exact ⟨[], .nil, F.bindsN fun _ _ _ _ _ _ us hl => match us, hl with | [_, _], _ => rfl⟩
theorem b_d__law_take : BindP d__law_take ["_law_hand_here", "_law_many_here"] 0 := by
  intro K dvs f fd F h j hj
  have e : dvs = [] := List.length_eq_zero_iff.mp h
  subst e
  obtain rfl : j = 0 := Nat.le_zero.mp hj
  exact ⟨[], .nil, F.bindsN fun _ _ _ _ _ _ us hl => match us, hl with | [_, _], _ => rfl⟩
theorem b_d__law_many : BindP d__law_many ["_law_sizes"] 0 := by
  intro K dvs f fd F h j hj
  have e : dvs = [] := List.length_eq_zero_iff.mp h
  subst e
  obtain rfl : j = 0 := Nat.le_zero.mp hj
  exact ⟨[], .nil, F.bindsN fun _ _ _ _ _ _ us hl => match us, hl with | [_], _ => rfl⟩
theorem b_d__law_filling : BindP d__law_filling ["_law_sizes", "_law_number_here"] 0 := by
  intro K dvs f fd F h j hj
  have e : dvs = [] := List.length_eq_zero_iff.mp h
  subst e
  obtain rfl : j = 0 := Nat.le_zero.mp hj
  exact ⟨[], .nil, F.bindsN fun _ _ _ _ _ _ us hl => match us, hl with | [_, _], _ => rfl⟩
theorem b_d__law_fillings : BindP d__law_fillings ["_law_sizes"] 0 := by
  intro K dvs f fd F h j hj
  have e : dvs = [] := List.length_eq_zero_iff.mp h
  subst e
  obtain rfl : j = 0 := Nat.le_zero.mp hj
  exact ⟨[], .nil, F.bindsN fun _ _ _ _ _ _ us hl => match us, hl with | [_], _ => rfl⟩
theorem b_d__law_number : BindP d__law_number ["_law_sizes", "_law_filling_here"] 0 := by
  intro K dvs f fd F h j hj
  have e : dvs = [] := List.length_eq_zero_iff.mp h
  subst e
  obtain rfl : j = 0 := Nat.le_zero.mp hj
  exact ⟨[], .nil, F.bindsN fun _ _ _ _ _ _ us hl => match us, hl with | [_, _], _ => rfl⟩
theorem b_d__law_name : BindP d__law_name ["_law_hand_here", "_law_first"] 0 := by
  intro K dvs f fd F h j hj
  have e : dvs = [] := List.length_eq_zero_iff.mp h
  subst e
  obtain rfl : j = 0 := Nat.le_zero.mp hj
  exact ⟨[], .nil, F.bindsN fun _ _ _ _ _ _ us hl => match us, hl with | [_, _], _ => rfl⟩
theorem b_d__law_tuples : BindP d__law_tuples ["_law_thing"] 0 := by
  intro K dvs f fd F h j hj
  have e : dvs = [] := List.length_eq_zero_iff.mp h
  subst e
  obtain rfl : j = 0 := Nat.le_zero.mp hj
  exact ⟨[], .nil, F.bindsN fun _ _ _ _ _ _ us hl => match us, hl with | [_], _ => rfl⟩
theorem b_d__law_odd : BindP d__law_odd ["_law_hand_here", "_law_bound"] 0 := by
  intro K dvs f fd F h j hj
  have e : dvs = [] := List.length_eq_zero_iff.mp h
  subst e
  obtain rfl : j = 0 := Nat.le_zero.mp hj
  exact ⟨[], .nil, F.bindsN fun _ _ _ _ _ _ us hl => match us, hl with | [_, _], _ => rfl⟩
theorem b_d__law_rid : BindP d__law_rid ["_law_hand_here"] 0 := by
  intro K dvs f fd F h j hj
  have e : dvs = [] := List.length_eq_zero_iff.mp h
  subst e
  obtain rfl : j = 0 := Nat.le_zero.mp hj
  exact ⟨[], .nil, F.bindsN fun _ _ _ _ _ _ us hl => match us, hl with | [_], _ => rfl⟩
theorem b_d__law_lists : BindP d__law_lists ["_law_hand_here", "_law_thing"] 0 := by
  intro K dvs f fd F h j hj
  have e : dvs = [] := List.length_eq_zero_iff.mp h
  subst e
  obtain rfl : j = 0 := Nat.le_zero.mp hj
  exact ⟨[], .nil, F.bindsN fun _ _ _ _ _ _ us hl => match us, hl with | [_, _], _ => rfl⟩
theorem b_d__law_whole : BindP d__law_whole ["_law_thing", "_law_low", "_law_high"] 0 := by
  intro K dvs f fd F h j hj
  have e : dvs = [] := List.length_eq_zero_iff.mp h
  subst e
  obtain rfl : j = 0 := Nat.le_zero.mp hj
  exact ⟨[], .nil, F.bindsN fun _ _ _ _ _ _ us hl => match us, hl with | [_, _, _], _ => rfl⟩
theorem b_d__law_like : BindP d__law_like ["_law_told", "_law_thing"] 0 := by
  intro K dvs f fd F h j hj
  have e : dvs = [] := List.length_eq_zero_iff.mp h
  subst e
  obtain rfl : j = 0 := Nat.le_zero.mp hj
  exact ⟨[], .nil, F.bindsN fun _ _ _ _ _ _ us hl => match us, hl with | [_, _], _ => rfl⟩
theorem b_d__law_truth : BindP d__law_truth ["_law_told", "_law_due"] 0 := by
  intro K dvs f fd F h j hj
  have e : dvs = [] := List.length_eq_zero_iff.mp h
  subst e
  obtain rfl : j = 0 := Nat.le_zero.mp hj
  exact ⟨[], .nil, F.bindsN fun _ _ _ _ _ _ us hl => match us, hl with | [_, _], _ => rfl⟩
theorem b_d__law_int : BindP d__law_int ["_law_thing"] 0 := by
  intro K dvs f fd F h j hj
  have e : dvs = [] := List.length_eq_zero_iff.mp h
  subst e
  obtain rfl : j = 0 := Nat.le_zero.mp hj
  exact ⟨[], .nil, F.bindsN fun _ _ _ _ _ _ us hl => match us, hl with | [_], _ => rfl⟩
theorem b_d__law_is_name : BindP d__law_is_name ["_law_thing"] 0 := by
  intro K dvs f fd F h j hj
  have e : dvs = [] := List.length_eq_zero_iff.mp h
  subst e
  obtain rfl : j = 0 := Nat.le_zero.mp hj
  exact ⟨[], .nil, F.bindsN fun _ _ _ _ _ _ us hl => match us, hl with | [_], _ => rfl⟩
theorem b_d__law_is_wire : BindP d__law_is_wire ["_law_thing"] 0 := by
  intro K dvs f fd F h j hj
  have e : dvs = [] := List.length_eq_zero_iff.mp h
  subst e
  obtain rfl : j = 0 := Nat.le_zero.mp hj
  exact ⟨[], .nil, F.bindsN fun _ _ _ _ _ _ us hl => match us, hl with | [_], _ => rfl⟩
theorem b_d__law_is_filling : BindP d__law_is_filling ["_law_sizes", "_law_thing"] 0 := by
  intro K dvs f fd F h j hj
  have e : dvs = [] := List.length_eq_zero_iff.mp h
  subst e
  obtain rfl : j = 0 := Nat.le_zero.mp hj
  exact ⟨[], .nil, F.bindsN fun _ _ _ _ _ _ us hl => match us, hl with | [_, _], _ => rfl⟩
theorem b_d__law_no_wire : BindP d__law_no_wire ["_law_hand_here"] 0 := by
  intro K dvs f fd F h j hj
  have e : dvs = [] := List.length_eq_zero_iff.mp h
  subst e
  obtain rfl : j = 0 := Nat.le_zero.mp hj
  exact ⟨[], .nil, F.bindsN fun _ _ _ _ _ _ us hl => match us, hl with | [_], _ => rfl⟩
theorem b_d__law_no_name : BindP d__law_no_name ["_law_hand_here"] 0 := by
  intro K dvs f fd F h j hj
  have e : dvs = [] := List.length_eq_zero_iff.mp h
  subst e
  obtain rfl : j = 0 := Nat.le_zero.mp hj
  exact ⟨[], .nil, F.bindsN fun _ _ _ _ _ _ us hl => match us, hl with | [_], _ => rfl⟩
theorem b_d__law_spoilt_row : BindP d__law_spoilt_row ["_law_hand_here", "_law_sizes", "_law_row"] 0 := by
  intro K dvs f fd F h j hj
  have e : dvs = [] := List.length_eq_zero_iff.mp h
  subst e
  obtain rfl : j = 0 := Nat.le_zero.mp hj
  exact ⟨[], .nil, F.bindsN fun _ _ _ _ _ _ us hl => match us, hl with | [_, _, _], _ => rfl⟩
theorem b_d__law_by_number : BindP d__law_by_number ["_law_sizes", "_law_number_here"] 0 := by
  intro K dvs f fd F h j hj
  have e : dvs = [] := List.length_eq_zero_iff.mp h
  subst e
  obtain rfl : j = 0 := Nat.le_zero.mp hj
  exact ⟨[], .nil, F.bindsN fun _ _ _ _ _ _ us hl => match us, hl with | [_, _], _ => rfl⟩
theorem b_d__law_its_number : BindP d__law_its_number ["_law_sizes", "_law_filling_here"] 0 := by
  intro K dvs f fd F h j hj
  have e : dvs = [] := List.length_eq_zero_iff.mp h
  subst e
  obtain rfl : j = 0 := Nat.le_zero.mp hj
  exact ⟨[], .nil, F.bindsN fun _ _ _ _ _ _ us hl => match us, hl with | [_, _], _ => rfl⟩
theorem b_d__law_drawn_sizes : BindP d__law_drawn_sizes ["_law_hand_here"] 0 := by
  intro K dvs f fd F h j hj
  have e : dvs = [] := List.length_eq_zero_iff.mp h
  subst e
  obtain rfl : j = 0 := Nat.le_zero.mp hj
  exact ⟨[], .nil, F.bindsN fun _ _ _ _ _ _ us hl => match us, hl with | [_], _ => rfl⟩
theorem b_d_law : BindP d_law ["_law_script"] 0 := by
  intro K dvs f fd F h j hj
  have e : dvs = [] := List.length_eq_zero_iff.mp h
  subst e
  obtain rfl : j = 0 := Nat.le_zero.mp hj
  exact ⟨[], .nil, F.bindsN fun _ _ _ _ _ _ us hl => match us, hl with | [_], _ => rfl⟩
theorem b_dx_NoFilling : BindP dx_NoFilling ["self", "thing"] 0 := by
  intro K dvs f fd F h j hj
  have e : dvs = [] := List.length_eq_zero_iff.mp h
  subst e
  obtain rfl : j = 0 := Nat.le_zero.mp hj
  exact ⟨[], .nil, F.bindsN fun _ _ _ _ _ _ us hl => match us, hl with | [_, _], _ => rfl⟩
theorem k_is_whole : BindK d_is_whole ["thing", "low", "high"] 2 [] := by
  intro K dvs f fd F h q hq
  cases hq
theorem k_is_name : BindK d_is_name ["thing"] 0 [] := by
  intro K dvs f fd F h q hq
  cases hq
theorem k_is_wire : BindK d_is_wire ["thing"] 0 [] := by
  intro K dvs f fd F h q hq
  cases hq
theorem k_count_fillings : BindK d_count_fillings ["sizes"] 0 [] := by
  intro K dvs f fd F h q hq
  cases hq
theorem k_filling_at : BindK d_filling_at ["sizes", "number"] 0 [] := by
  intro K dvs f fd F h q hq
  cases hq
theorem k_first_wrong : BindK d_first_wrong ["sizes", "worths", "unknown"] 1 [] := by
  intro K dvs f fd F h q hq
  cases hq
theorem k_is_filling : BindK d_is_filling ["sizes", "thing"] 0 [] := by
  intro K dvs f fd F h q hq
  cases hq
theorem k_filling_number : BindK d_filling_number ["sizes", "filling"] 0 [] := by
  intro K dvs f fd F h q hq
  cases hq
theorem k_filling_by_number : BindK d_filling_by_number ["sizes", "number"] 0 [] := by
  intro K dvs f fd F h q hq
  cases hq
theorem k__law_hand : BindK d__law_hand ["_law_script"] 0 [] := by
  intro K dvs f fd F h q hq
  cases hq
theorem k__law_mixed : BindK d__law_mixed ["_law_number_here", "_law_turn"] 0 [] := by
  intro K dvs f fd F h q hq
  cases hq
theorem k__law_take : BindK d__law_take ["_law_hand_here", "_law_many_here"] 0 [] := by
  intro K dvs f fd F h q hq
  cases hq
theorem k__law_many : BindK d__law_many ["_law_sizes"] 0 [] := by
  intro K dvs f fd F h q hq
  cases hq
theorem k__law_filling : BindK d__law_filling ["_law_sizes", "_law_number_here"] 0 [] := by
  intro K dvs f fd F h q hq
  cases hq
theorem k__law_fillings : BindK d__law_fillings ["_law_sizes"] 0 [] := by
  intro K dvs f fd F h q hq
  cases hq
theorem k__law_number : BindK d__law_number ["_law_sizes", "_law_filling_here"] 0 [] := by
  intro K dvs f fd F h q hq
  cases hq
theorem k__law_name : BindK d__law_name ["_law_hand_here", "_law_first"] 0 [] := by
  intro K dvs f fd F h q hq
  cases hq
theorem k__law_tuples : BindK d__law_tuples ["_law_thing"] 0 [] := by
  intro K dvs f fd F h q hq
  cases hq
theorem k__law_odd : BindK d__law_odd ["_law_hand_here", "_law_bound"] 0 [] := by
  intro K dvs f fd F h q hq
  cases hq
theorem k__law_rid : BindK d__law_rid ["_law_hand_here"] 0 [] := by
  intro K dvs f fd F h q hq
  cases hq
theorem k__law_lists : BindK d__law_lists ["_law_hand_here", "_law_thing"] 0 [] := by
  intro K dvs f fd F h q hq
  cases hq
theorem k__law_whole : BindK d__law_whole ["_law_thing", "_law_low", "_law_high"] 0 [] := by
  intro K dvs f fd F h q hq
  cases hq
theorem k__law_like : BindK d__law_like ["_law_told", "_law_thing"] 0 [] := by
  intro K dvs f fd F h q hq
  cases hq
theorem k__law_truth : BindK d__law_truth ["_law_told", "_law_due"] 0 [] := by
  intro K dvs f fd F h q hq
  cases hq
theorem k__law_int : BindK d__law_int ["_law_thing"] 0 [] := by
  intro K dvs f fd F h q hq
  cases hq
theorem k__law_is_name : BindK d__law_is_name ["_law_thing"] 0 [] := by
  intro K dvs f fd F h q hq
  cases hq
theorem k__law_is_wire : BindK d__law_is_wire ["_law_thing"] 0 [] := by
  intro K dvs f fd F h q hq
  cases hq
theorem k__law_is_filling : BindK d__law_is_filling ["_law_sizes", "_law_thing"] 0 [] := by
  intro K dvs f fd F h q hq
  cases hq
theorem k__law_no_wire : BindK d__law_no_wire ["_law_hand_here"] 0 [] := by
  intro K dvs f fd F h q hq
  cases hq
theorem k__law_no_name : BindK d__law_no_name ["_law_hand_here"] 0 [] := by
  intro K dvs f fd F h q hq
  cases hq
theorem k__law_spoilt_row : BindK d__law_spoilt_row ["_law_hand_here", "_law_sizes", "_law_row"] 0 [] := by
  intro K dvs f fd F h q hq
  cases hq
theorem k__law_by_number : BindK d__law_by_number ["_law_sizes", "_law_number_here"] 0 [] := by
  intro K dvs f fd F h q hq
  cases hq
theorem k__law_its_number : BindK d__law_its_number ["_law_sizes", "_law_filling_here"] 0 [] := by
  intro K dvs f fd F h q hq
  cases hq
theorem k__law_drawn_sizes : BindK d__law_drawn_sizes ["_law_hand_here"] 0 [] := by
  intro K dvs f fd F h q hq
  cases hq
theorem k_law : BindK d_law ["_law_script"] 0 [] := by
  intro K dvs f fd F h q hq
  cases hq
theorem be : ∀ e ∈ prg.ents, BindP e.d e.ps e.dfs.length ∧ BindK e.d e.ps e.dfs.length e.kws := by
  intro e h
  rcases List.mem_cons.mp h with rfl | h
  · exact ⟨b_d_is_whole, k_is_whole⟩
  rcases List.mem_cons.mp h with rfl | h
  · exact ⟨b_d_is_name, k_is_name⟩
  rcases List.mem_cons.mp h with rfl | h
  · exact ⟨b_d_is_wire, k_is_wire⟩
  rcases List.mem_cons.mp h with rfl | h
  · exact ⟨b_d_count_fillings, k_count_fillings⟩
  rcases List.mem_cons.mp h with rfl | h
  · exact ⟨b_d_filling_at, k_filling_at⟩
  rcases List.mem_cons.mp h with rfl | h
  · exact ⟨b_d_first_wrong, k_first_wrong⟩
  rcases List.mem_cons.mp h with rfl | h
  · exact ⟨b_d_is_filling, k_is_filling⟩
  rcases List.mem_cons.mp h with rfl | h
  · exact ⟨b_d_filling_number, k_filling_number⟩
  rcases List.mem_cons.mp h with rfl | h
  · exact ⟨b_d_filling_by_number, k_filling_by_number⟩
  rcases List.mem_cons.mp h with rfl | h
  · exact ⟨b_d__law_hand, k__law_hand⟩
  rcases List.mem_cons.mp h with rfl | h
  · exact ⟨b_d__law_mixed, k__law_mixed⟩
  rcases List.mem_cons.mp h with rfl | h
  · exact ⟨b_d__law_take, k__law_take⟩
  rcases List.mem_cons.mp h with rfl | h
  · exact ⟨b_d__law_many, k__law_many⟩
  rcases List.mem_cons.mp h with rfl | h
  · exact ⟨b_d__law_filling, k__law_filling⟩
  rcases List.mem_cons.mp h with rfl | h
  · exact ⟨b_d__law_fillings, k__law_fillings⟩
  rcases List.mem_cons.mp h with rfl | h
  · exact ⟨b_d__law_number, k__law_number⟩
  rcases List.mem_cons.mp h with rfl | h
  · exact ⟨b_d__law_name, k__law_name⟩
  rcases List.mem_cons.mp h with rfl | h
  · exact ⟨b_d__law_tuples, k__law_tuples⟩
  rcases List.mem_cons.mp h with rfl | h
  · exact ⟨b_d__law_odd, k__law_odd⟩
  rcases List.mem_cons.mp h with rfl | h
  · exact ⟨b_d__law_rid, k__law_rid⟩
  rcases List.mem_cons.mp h with rfl | h
  · exact ⟨b_d__law_lists, k__law_lists⟩
  rcases List.mem_cons.mp h with rfl | h
  · exact ⟨b_d__law_whole, k__law_whole⟩
  rcases List.mem_cons.mp h with rfl | h
  · exact ⟨b_d__law_like, k__law_like⟩
  rcases List.mem_cons.mp h with rfl | h
  · exact ⟨b_d__law_truth, k__law_truth⟩
  rcases List.mem_cons.mp h with rfl | h
  · exact ⟨b_d__law_int, k__law_int⟩
  rcases List.mem_cons.mp h with rfl | h
  · exact ⟨b_d__law_is_name, k__law_is_name⟩
  rcases List.mem_cons.mp h with rfl | h
  · exact ⟨b_d__law_is_wire, k__law_is_wire⟩
  rcases List.mem_cons.mp h with rfl | h
  · exact ⟨b_d__law_is_filling, k__law_is_filling⟩
  rcases List.mem_cons.mp h with rfl | h
  · exact ⟨b_d__law_no_wire, k__law_no_wire⟩
  rcases List.mem_cons.mp h with rfl | h
  · exact ⟨b_d__law_no_name, k__law_no_name⟩
  rcases List.mem_cons.mp h with rfl | h
  · exact ⟨b_d__law_spoilt_row, k__law_spoilt_row⟩
  rcases List.mem_cons.mp h with rfl | h
  · exact ⟨b_d__law_by_number, k__law_by_number⟩
  rcases List.mem_cons.mp h with rfl | h
  · exact ⟨b_d__law_its_number, k__law_its_number⟩
  rcases List.mem_cons.mp h with rfl | h
  · exact ⟨b_d__law_drawn_sizes, k__law_drawn_sizes⟩
  rcases List.mem_cons.mp h with rfl | h
  · exact ⟨b_d_law, k_law⟩
  cases h
theorem bx : ∀ e ∈ prg.exns, BindP e.d e.ps 0 := by
  intro e h
  rcases List.mem_cons.mp h with rfl | h
  · exact b_dx_NoFilling
  cases h
theorem bg : ∀ e ∈ prg.gens, BindP e.d e.ps 0 := by
  intro e h
  rcases List.mem_cons.mp h with rfl | h
  · exact b_d_fillings_of
  cases h
theorem cg : prg.gens.all genC = true := by decide +kernel
theorem ce : prg.ents.all entC = true := by decide +kernel
theorem cx : prg.exns.all exnC = true := by decide +kernel
/-! ### the head -/
abbrev R : PySem.W.OpenRow := PySem.W.OpenLaw.row PySem.Challenge.rw_alreadytold_k02_whole_wires_and_fillings
abbrev hk : PySem.W.Hook := He.hookX 6 prg.fa prg.fn [] [] prg.exB
def ob (s : PySem.W.SharedT) : He.AlX := He.obsX 6 prg.fa prg.fn [] [] prg.exB (HandSHeadRun.getT s)
theorem ob_eq (s : PySem.W.SharedT) : ob s = hk.obs s.abs := He.obsX_eq (HandSHeadRun.getT_eq s)
def loose0 : List Str := ["LetterError", "NoFilling", "SMALL", "_law_by_number", "_law_drawn_sizes", "_law_filling", "_law_fillings", "_law_hand", "_law_int", "_law_is_filling", "_law_is_name", "_law_is_wire", "_law_its_number", "_law_like", "_law_lists", "_law_many", "_law_mixed", "_law_name", "_law_no_name", "_law_no_wire"]
def loose1 : List Str := ["_law_number", "_law_odd", "_law_rid", "_law_spoilt_row", "_law_take", "_law_truth", "_law_tuples", "_law_whole", "count_fillings", "filling_at", "filling_by_number", "filling_number", "fillings_of", "first_wrong", "is_filling", "is_name", "is_whole", "is_wire"]
def loose : List Str := loose0 ++ loose1
theorem run (w : World) : HandSHeadRun.RunEq R (PySem.W.view R.prog [42]) hk ob 4000 loose w := by
  intro os
  kernel_rfl
/-- what is left: the evaluator's answer -/
def Plain (n k : Nat) : Prop := ∀ ns : List Int, ns.length ≤ 63 → (∀ z ∈ ns, Builtin.Int.intBits z ≤ 1048576) → ∃ as, (mdl prg.tab n (k + 1)).call "law" [.fz (.scr (ns.map D.int))] = .ret (.bl true) false as
end LawP
open PySem PySem.W PySem.Calls PyProof.Rows
theorem LawP.ends (n k : Nat) (hr : L2.Room (k + 1) callerA) (plain : LawP.Plain n k) : PySem.Challenge.rw_alreadytold_k02_whole_wires_and_fillings.Holds := by
  w_on; o_law
  refine HandSHeadRun.head_any (r := OpenLaw.row PySem.Challenge.rw_alreadytold_k02_whole_wires_and_fillings) (q := view (OpenLaw.row PySem.Challenge.rw_alreadytold_k02_whole_wires_and_fillings).prog [42]) (H := LawP.hk) (ob := LawP.ob) (M := 4000) (loose := LawP.loose) (d := HandSHeadRun.topDef (OpenLaw.row PySem.Challenge.rw_alreadytold_k02_whole_wires_and_fillings).prog 42) (kwd := []) LawP.ob_eq
    (by kernel_rfl) (fun s => by kernel_rfl) LawP.run (by kernel_rfl) (by kernel_rfl) (by kernel_rfl) (by rfl) (by first | assumption | decide +kernel) (by decide +kernel) ⟨rfl, rfl, rfl, rfl, rfl, by decide +kernel⟩ ?hw ?hc
  case hw => w_witness2
  case hc =>
    refine LamX.walk_ofTsE (l := PySem.Challenge.rw_alreadytold_k02_whole_wires_and_fillings) (n := 63) (k := k + 1) (x := "_law_script") (CX := fun w => L2.CX (PySem.Challenge.rw_alreadytold_k02_whole_wires_and_fillings).prog w) rfl (by decide) (by kernel_rfl) hr ?F (fun _ _ _ _ _ z => VE.cx_no z)
    intro w mg fa h Y G hmg0
    obtain ⟨K, KX, c⟩ := Y
    have hmg : mg ("law" : PySem.Str) = some (.ref fa) := by
      have e : (HandSHeadRun.topDef (OpenLaw.row PySem.Challenge.rw_alreadytold_k02_whole_wires_and_fillings).prog 42).name = ("law" : PySem.Str) := by kernel_rfl
      rw [← e]
      exact hmg0
    exact ⟨K, KX, VE.law_at (p := LawP.prg) (e := LawP.e_law) (n := n) KX G hmg c.t.d c.more LawP.ce LawP.cx LawP.be LawP.bx LawP.cg LawP.bg rfl rfl rfl (fun _ _ _ _ _ _ us hl => match us, hl with | [_], _ => rfl) plain⟩
end

section
set_option Elab.async false
set_option linter.all false
set_option maxRecDepth 100000
set_option maxHeartbeats 4000000
namespace LawP
open PySem PySem.Spec L2 VE
abbrev Mk (k : Nat) : Mdl := mdl prg.tab 60 (k + 4)
def m_is_whole (C : Str → List Sl → Cr) : XS := (sCons (sIf (tOr (tNot (tE (xIsi (xVar 0) ["int"]))) (tE (xIsi (xVar 0) ["bool"]))) (sCons (sRet (xC (.bl false))) sNil) sNil) (sCons (sIf (tAnd (tCm (xCmp .IsNot (xVar 1) (xC (.non)))) (tCm (xCmp .Lt (xVar 0) (xVar 1)))) (sCons (sRet (xC (.bl false))) sNil) sNil) (sCons (sRet (xOr (xCmp .Is (xVar 2) (xC (.non))) (xCmp .LtE (xVar 0) (xVar 2)))) sNil)))
theorem mo_is_whole (k : Nat) : (ev (Mk k) e_is_whole.N 60).ss e_is_whole.d.scope e_is_whole.d.body = m_is_whole (Mk k).call := by kernel_rfl
def m_is_name (C : Str → List Sl → Cr) : XS := (sCons (sIf (tOr (tNot (tE (xIsi (xVar 0) ["str"]))) (tNot (tCm (xCmp2 .LtE .LtE (xC (.int (1))) (xBi "len" (xACons (xVar 0) xANil)) (xC (.int (8))))))) (sCons (sRet (xC (.bl false))) sNil) sNil) (sCons (sRet (xBi "all" (xACons (xComp [1] (iGen (xVar 0)) (agI 1) tYes (xCmp .In (xVar 1) (xC (.str (PySem.Str.ofString "abcdefghijklmnopqrstuvwxyz"))))) xANil))) sNil))
theorem mo_is_name (k : Nat) : (ev (Mk k) e_is_name.N 60).ss e_is_name.d.scope e_is_name.d.body = m_is_name (Mk k).call := by kernel_rfl
def m_is_wire (C : Str → List Sl → Cr) : XS := (sCons (sIf (tOr (tNot (tE (xIsi (xVar 0) ["list", "tuple"]))) (tCm (xCmp .NotEq (xBi "len" (xACons (xVar 0) xANil)) (xC (.int (2)))))) (sCons (sRet (xC (.bl false))) sNil) sNil) (sCons (sRet (xAnd (xOwn (C "is_name") [] (xACons (xIx (xVar 0) (xC (.int (0)))) xANil)) (xOwn (C "is_whole") [] (xACons (xIx (xVar 0) (xC (.int (1)))) (xACons (xC (.int (2))) (xACons (xC (.int (4))) xANil)))))) sNil))
theorem mo_is_wire (k : Nat) : (ev (Mk k) e_is_wire.N 60).ss e_is_wire.d.scope e_is_wire.d.body = m_is_wire (Mk k).call := by kernel_rfl
def m_count_fillings (C : Str → List Sl → Cr) : XS := (sCons (sSet 1 (xC (.int (1)))) (sCons (sFor (iGen (xVar 0)) (agI 2) (sCons (sSet 1 (xBin .Mult (xVar 1) (xVar 2))) sNil)) (sCons (sRet (xVar 1)) sNil)))
theorem mo_count_fillings (k : Nat) : (ev (Mk k) e_count_fillings.N 60).ss e_count_fillings.d.scope e_count_fillings.d.body = m_count_fillings (Mk k).call := by kernel_rfl
def m_filling_at (C : Str → List Sl → Cr) : XS := (sCons (sSet 2 (xLst xNil)) (sCons (sSet 3 (xVar 1)) (sCons (sFor (iRev (xBi "list" (xACons (xVar 0) xANil))) (agI 4) (sCons (sDrop (xApp 2 (xBin .Mod (xVar 3) (xVar 4)))) (sCons (sSet 3 (xBin .FloorDiv (xVar 3) (xVar 4))) sNil))) (sCons (sRet (xTupRev (xVar 2))) sNil))))
theorem mo_filling_at (k : Nat) : (ev (Mk k) e_filling_at.N 60).ss e_filling_at.d.scope e_filling_at.d.body = m_filling_at (Mk k).call := by kernel_rfl
def m_fillings_of (C : Str → List Sl → Cr) : XG := (gCons (gFor (iRng1 (xOwn (C "count_fillings") [] (xACons (xVar 0) xANil))) (agI 1) (gCons (gYield (xOwn (C "filling_at") [] (xACons (xVar 0) (xACons (xVar 1) xANil)))) gNil)) gNil)
theorem mo_fillings_of (k : Nat) : genS (Mk k) e_fillings_of.N (ev (Mk k) e_fillings_of.N 60) 60 e_fillings_of.d.scope e_fillings_of.d.body = m_fillings_of (Mk k).call := by kernel_rfl
def m_first_wrong (C : Str → List Sl → Cr) : XS := (sCons (sIf (tNot (tE (xIsi (xVar 1) ["list", "tuple"]))) (sCons (sRet (xC (.int (0)))) sNil) sNil) (sCons (sFor (iEnu (xVar 0)) (agT [3, 4]) (sCons (sIf (tCm (xCmp .GtE (xVar 3) (xBi "len" (xACons (xVar 1) xANil)))) (sCons (sRet (xVar 3)) sNil) sNil) (sCons (sIf (tAnd (tE (xVar 2)) (tCm (xCmp .Is (xIx (xVar 1) (xVar 3)) (xC (.non))))) (sCons sCnt sNil) sNil) (sCons (sIf (tNot (tE (xOwn (C "is_whole") [] (xACons (xIx (xVar 1) (xVar 3)) (xACons (xC (.int (0))) (xACons (xBin .Sub (xVar 4) (xC (.int (1)))) xANil)))))) (sCons (sRet (xVar 3)) sNil) sNil) sNil)))) (sCons (sRet (xIte (tCm (xCmp .Gt (xBi "len" (xACons (xVar 1) xANil)) (xBi "len" (xACons (xVar 0) xANil)))) (xBi "len" (xACons (xVar 0) xANil)) (xC (.non)))) sNil)))
theorem mo_first_wrong (k : Nat) : (ev (Mk k) e_first_wrong.N 60).ss e_first_wrong.d.scope e_first_wrong.d.body = m_first_wrong (Mk k).call := by kernel_rfl
def m_is_filling (C : Str → List Sl → Cr) : XS := (sCons (sRet (xCmp .Is (xOwn (C "first_wrong") [.bl false] (xACons (xVar 0) (xACons (xVar 1) xANil))) (xC (.non)))) sNil)
theorem mo_is_filling (k : Nat) : (ev (Mk k) e_is_filling.N 60).ss e_is_filling.d.scope e_is_filling.d.body = m_is_filling (Mk k).call := by kernel_rfl
def m_filling_number (C : Str → List Sl → Cr) : XS := (sCons (sIf (tNot (tE (xOwn (C "is_filling") [] (xACons (xVar 0) (xACons (xVar 1) xANil))))) (sCons (sRaise "NoFilling" (LawP.prg.tab.mkx "NoFilling") (xCons (xVar 1) xNil)) sNil) sNil) (sCons (sSet 2 (xC (.int (0)))) (sCons (sFor (iEnu (xVar 0)) (agT [3, 4]) (sCons (sSet 2 (xBin .Add (xBin .Mult (xVar 2) (xVar 4)) (xIx (xVar 1) (xVar 3)))) sNil)) (sCons (sRet (xVar 2)) sNil))))
theorem mo_filling_number (k : Nat) : (ev (Mk k) e_filling_number.N 60).ss e_filling_number.d.scope e_filling_number.d.body = m_filling_number (Mk k).call := by kernel_rfl
def m_filling_by_number (C : Str → List Sl → Cr) : XS := (sCons (sIf (tNot (tE (xOwn (C "is_whole") [] (xACons (xVar 1) (xACons (xC (.int (0))) (xACons (xBin .Sub (xOwn (C "count_fillings") [] (xACons (xVar 0) xANil)) (xC (.int (1)))) xANil)))))) (sCons (sRaise "NoFilling" (LawP.prg.tab.mkx "NoFilling") (xCons (xVar 1) xNil)) sNil) sNil) (sCons (sRet (xOwn (C "filling_at") [] (xACons (xVar 0) (xACons (xVar 1) xANil)))) sNil))
theorem mo_filling_by_number (k : Nat) : (ev (Mk k) e_filling_by_number.N 60).ss e_filling_by_number.d.scope e_filling_by_number.d.body = m_filling_by_number (Mk k).call := by kernel_rfl
def m__law_hand (C : Str → List Sl → Cr) : XS := (sCons (sSet 1 (xBin .Add (xBi "len" (xACons (xVar 0) xANil)) (xC (.int (71))))) (sCons (sSet 2 (xLst xNil)) (sCons (sFor (iGen (xVar 0)) (agI 3) (sCons (sSet 1 (xBin .Mod (xBi "int" (xACons (xBin .Add (xBin .Mult (xVar 1) (xC (.int (1033)))) (xBi "int" (xACons (xVar 3) xANil))) xANil)) (xC (.int (2147483563))))) (sCons (sDrop (xApp 2 (xBi "abs" (xACons (xBi "int" (xACons (xVar 3) xANil)) xANil)))) sNil))) (sCons (sRet (xLst (xCons (xVar 2) (xCons (xC (.int (0))) (xCons (xC (.int (0))) (xCons (xVar 1) xNil)))))) sNil))))
theorem mo__law_hand (k : Nat) : (ev (Mk k) e__law_hand.N 60).ss e__law_hand.d.scope e__law_hand.d.body = m__law_hand (Mk k).call := by kernel_rfl
def m__law_mixed (C : Str → List Sl → Cr) : XS := (sCons (sSet 2 (xBin .Mod (xBi "int" (xACons (xBin .Add (xBin .Add (xBin .Mult (xVar 0) (xC (.int (40692)))) (xBin .Mult (xVar 1) (xC (.int (8117))))) (xC (.int (50821)))) xANil)) (xC (.int (2147483399))))) (sCons (sSet 3 (xBin .Mod (xBi "int" (xACons (xBin .Add (xBin .Add (xBin .Mult (xVar 2) (xVar 2)) (xBin .Mult (xVar 1) (xC (.int (104717))))) (xBin .FloorDiv (xVar 2) (xC (.int (127))))) xANil)) (xC (.int (2147483629))))) (sCons (sRet (xBin .FloorDiv (xBi "int" (xACons (xBin .Mod (xBi "int" (xACons (xBin .Add (xBin .Mult (xVar 3) (xC (.int (16807)))) (xBin .FloorDiv (xVar 2) (xC (.int (11))))) xANil)) (xC (.int (2147483587)))) xANil)) (xC (.int (32))))) sNil)))
theorem mo__law_mixed (k : Nat) : (ev (Mk k) e__law_mixed.N 60).ss e__law_mixed.d.scope e__law_mixed.d.body = m__law_mixed (Mk k).call := by kernel_rfl
def m__law_take (C : Str → List Sl → Cr) : XS := (sCons (sIf (tAnd (tCm (xCmp .Eq (xIx (xVar 0) (xC (.int (2)))) (xC (.int (0))))) (tCm (xCmp .Lt (xIx (xVar 0) (xC (.int (1)))) (xBi "len" (xACons (xIx (xVar 0) (xC (.int (0)))) xANil))))) (sCons (sSet 2 (xIx (xIx (xVar 0) (xC (.int (0)))) (xIx (xVar 0) (xC (.int (1)))))) (sCons (sSub (xVar 0) (xC (.int (1))) (xBin .Add (xIx (xVar 0) (xC (.int (1)))) (xC (.int (1))))) (sCons (sIf (tCm (xCmp .Lt (xVar 2) (xBin .Pow (xC (.int (10))) (xC (.int (18)))))) (sCons (sRet (xBin .Mod (xBi "int" (xACons (xOwn (C "_law_mixed") [] (xACons (xBin .Mod (xBi "int" (xACons (xVar 2) xANil)) (xC (.int (2147483399)))) (xACons (xIx (xVar 0) (xC (.int (1)))) xANil))) xANil)) (xVar 1))) sNil) sNil) (sCons (sSub (xVar 0) (xC (.int (2))) (xVar 2)) sNil)))) sNil) (sCons (sIf (tCm (xCmp .Gt (xIx (xVar 0) (xC (.int (2)))) (xC (.int (0))))) (sCons (sSet 3 (xIx (xVar 0) (xC (.int (2))))) (sCons (sSub (xVar 0) (xC (.int (2))) (xBin .FloorDiv (xBi "int" (xACons (xVar 3) xANil)) (xVar 1))) (sCons (sRet (xBin .Mod (xBi "int" (xACons (xVar 3) xANil)) (xVar 1))) sNil))) sNil) (sCons (sSub (xVar 0) (xC (.int (3))) (xBin .Mod (xBi "int" (xACons (xBin .Add (xIx (xVar 0) (xC (.int (3)))) (xC (.int (1)))) xANil)) (xC (.int (2147483563))))) (sCons (sRet (xBin .Mod (xBi "int" (xACons (xOwn (C "_law_mixed") [] (xACons (xIx (xVar 0) (xC (.int (3)))) (xACons (xIx (xVar 0) (xC (.int (1)))) xANil))) xANil)) (xVar 1))) sNil))))
theorem mo__law_take (k : Nat) : (ev (Mk k) e__law_take.N 60).ss e__law_take.d.scope e__law_take.d.body = m__law_take (Mk k).call := by kernel_rfl
def m__law_many (C : Str → List Sl → Cr) : XS := (sCons (sSet 1 (xC (.int (1)))) (sCons (sFor (iGen (xVar 0)) (agI 2) (sCons (sSet 1 (xBin .Mult (xVar 1) (xVar 2))) sNil)) (sCons (sRet (xVar 1)) sNil)))
theorem mo__law_many (k : Nat) : (ev (Mk k) e__law_many.N 60).ss e__law_many.d.scope e__law_many.d.body = m__law_many (Mk k).call := by kernel_rfl
def m__law_filling (C : Str → List Sl → Cr) : XS := (sCons (sSet 2 (xLst xNil)) (sCons (sFor (iRng1 (xBi "len" (xACons (xVar 0) xANil))) (agI 3) (sCons (sSet 4 (xIx (xVar 0) (xBin .Sub (xBin .Sub (xBi "len" (xACons (xVar 0) xANil)) (xC (.int (1)))) (xVar 3)))) (sCons (sSet 2 (xBin .Add (xLst (xCons (xBin .Mod (xBi "int" (xACons (xVar 1) xANil)) (xVar 4)) xNil)) (xVar 2))) (sCons (sSet 1 (xBin .FloorDiv (xVar 1) (xVar 4))) sNil)))) (sCons (sRet (xBi "tuple" (xACons (xVar 2) xANil))) sNil)))
theorem mo__law_filling (k : Nat) : (ev (Mk k) e__law_filling.N 60).ss e__law_filling.d.scope e__law_filling.d.body = m__law_filling (Mk k).call := by kernel_rfl
def m__law_fillings (C : Str → List Sl → Cr) : XS := (sCons (sRet (xComp [1] (iRng1 (xOwn (C "_law_many") [] (xACons (xVar 0) xANil))) (agI 1) tYes (xOwn (C "_law_filling") [] (xACons (xVar 0) (xACons (xVar 1) xANil))))) sNil)
theorem mo__law_fillings (k : Nat) : (ev (Mk k) e__law_fillings.N 60).ss e__law_fillings.d.scope e__law_fillings.d.body = m__law_fillings (Mk k).call := by kernel_rfl
def m__law_number (C : Str → List Sl → Cr) : XS := (sCons (sSet 2 (xC (.int (0)))) (sCons (sFor (iRng1 (xBi "len" (xACons (xVar 0) xANil))) (agI 3) (sCons (sSet 2 (xBin .Add (xBin .Mult (xVar 2) (xIx (xVar 0) (xVar 3))) (xIx (xVar 1) (xVar 3)))) sNil)) (sCons (sRet (xVar 2)) sNil)))
theorem mo__law_number (k : Nat) : (ev (Mk k) e__law_number.N 60).ss e__law_number.d.scope e__law_number.d.body = m__law_number (Mk k).call := by kernel_rfl
def m__law_name (C : Str → List Sl → Cr) : XS := (sCons (sSet 2 (xIx (xC (.str (PySem.Str.ofString "abcdefghijklmnopqrstuvwxyz"))) (xVar 1))) (sCons (sFor (iRng1 (xIx (xTup (xCons (xC (.int (0))) (xCons (xC (.int (0))) (xCons (xC (.int (1))) (xCons (xC (.int (3))) (xCons (xC (.int (7))) xNil)))))) (xOwn (C "_law_take") [] (xACons (xVar 0) (xACons (xC (.int (5))) xANil))))) (agI 3) (sCons (sSet 2 (xBin .Add (xVar 2) (xIx (xC (.str (PySem.Str.ofString "abcdefghijklmnopqrstuvwxyz"))) (xOwn (C "_law_take") [] (xACons (xVar 0) (xACons (xC (.int (26))) xANil)))))) sNil)) (sCons (sRet (xVar 2)) sNil)))
theorem mo__law_name (k : Nat) : (ev (Mk k) e__law_name.N 60).ss e__law_name.d.scope e__law_name.d.body = m__law_name (Mk k).call := by kernel_rfl
def m__law_tuples (C : Str → List Sl → Cr) : XS := (sCons (sIf (tE (xIsi (xVar 0) ["tuple"])) (sCons (sRet (xNot (xComp [1] (iGen (xVar 0)) (agI 1) (tNot (tE (xOwn (C "_law_tuples") [] (xACons (xVar 1) xANil)))) (xC (.int (1)))))) sNil) sNil) (sCons (sRet (xOr (xCmp .Is (xVar 0) (xC (.non))) (xOr (xIsi (xVar 0) ["str"]) (xAnd (xIsi (xVar 0) ["int"]) (xNot (xIsi (xVar 0) ["bool"])))))) sNil))
theorem mo__law_tuples (k : Nat) : (ev (Mk k) e__law_tuples.N 60).ss e__law_tuples.d.scope e__law_tuples.d.body = m__law_tuples (Mk k).call := by kernel_rfl
def m__law_odd (C : Str → List Sl → Cr) : XS := (sCons (sSet 2 (xOwn (C "_law_take") [] (xACons (xVar 0) (xACons (xC (.int (9))) xANil)))) (sCons (sIf (tCm (xCmp .Eq (xVar 2) (xC (.int (0))))) (sCons (sRet (xBin .Add (xVar 1) (xOwn (C "_law_take") [] (xACons (xVar 0) (xACons (xBin .Pow (xC (.int (10))) (xC (.int (12)))) xANil))))) sNil) sNil) (sCons (sIf (tCm (xCmp .Eq (xVar 2) (xC (.int (1))))) (sCons (sRet (xBin .Sub (xNeg (xC (.int (1)))) (xOwn (C "_law_take") [] (xACons (xVar 0) (xACons (xBin .Pow (xC (.int (10))) (xC (.int (12)))) xANil))))) sNil) sNil) (sCons (sRet (xIx (xTup (xCons (xC (.bl true)) (xCons (xC (.bl false)) (xCons (xC (.non)) (xCons (xC (.str (PySem.Str.ofString "1"))) (xCons (xTup (xCons (xC (.int (0))) xNil)) (xCons (xC (.str (PySem.Str.ofString "00"))) (xCons (xVar 1) xNil)))))))) (xBin .Sub (xVar 2) (xC (.int (2)))))) sNil))))
theorem mo__law_odd (k : Nat) : (ev (Mk k) e__law_odd.N 60).ss e__law_odd.d.scope e__law_odd.d.body = m__law_odd (Mk k).call := by kernel_rfl
def m__law_rid (C : Str → List Sl → Cr) : XS := (sCons (sRet (xIx (xTup (xCons (xC (.non)) (xCons (xC (.int (3))) (xCons (xC (.str (PySem.Str.ofString "ab"))) (xCons (xC (.bl true)) (xCons (xC (.dic (0) (1))) (xCons (xNeg (xC (.int (1)))) xNil))))))) (xOwn (C "_law_take") [] (xACons (xVar 0) (xACons (xC (.int (6))) xANil))))) sNil)
theorem mo__law_rid (k : Nat) : (ev (Mk k) e__law_rid.N 60).ss e__law_rid.d.scope e__law_rid.d.body = m__law_rid (Mk k).call := by kernel_rfl
def m__law_lists (C : Str → List Sl → Cr) : XS := (sCons (sRet (xIte (tE (xOwn (C "_law_take") [] (xACons (xVar 0) (xACons (xC (.int (2))) xANil)))) (xBi "list" (xACons (xVar 1) xANil)) (xBi "tuple" (xACons (xVar 1) xANil)))) sNil)
theorem mo__law_lists (k : Nat) : (ev (Mk k) e__law_lists.N 60).ss e__law_lists.d.scope e__law_lists.d.body = m__law_lists (Mk k).call := by kernel_rfl
def m__law_whole (C : Str → List Sl → Cr) : XS := (sCons (sRet (xAnd (xIsi (xVar 0) ["int"]) (xAnd (xNot (xIsi (xVar 0) ["bool"])) (xCmp2 .LtE .LtE (xVar 1) (xVar 0) (xVar 2))))) sNil)
theorem mo__law_whole (k : Nat) : (ev (Mk k) e__law_whole.N 60).ss e__law_whole.d.scope e__law_whole.d.body = m__law_whole (Mk k).call := by kernel_rfl
def m__law_like (C : Str → List Sl → Cr) : XS := (sCons (sIf (tE (xIsi (xVar 1) ["list", "tuple"])) (sCons (sRet (xAnd (xIsi (xVar 0) ["list", "tuple"]) (xCmp .Eq (xBi "list" (xACons (xVar 0) xANil)) (xBi "list" (xACons (xVar 1) xANil))))) sNil) sNil) (sCons (sRet (xAnd (xCmp .Eq (xVar 0) (xVar 1)) (xCmp .Eq (xIsi (xVar 0) ["bool"]) (xIsi (xVar 1) ["bool"])))) sNil))
theorem mo__law_like (k : Nat) : (ev (Mk k) e__law_like.N 60).ss e__law_like.d.scope e__law_like.d.body = m__law_like (Mk k).call := by kernel_rfl
def m__law_truth (C : Str → List Sl → Cr) : XS := (sCons (sRet (xAnd (xIsi (xVar 0) ["bool"]) (xCmp .Eq (xVar 0) (xVar 1)))) sNil)
theorem mo__law_truth (k : Nat) : (ev (Mk k) e__law_truth.N 60).ss e__law_truth.d.scope e__law_truth.d.body = m__law_truth (Mk k).call := by kernel_rfl
def m__law_int (C : Str → List Sl → Cr) : XS := (sCons (sRet (xAnd (xIsi (xVar 0) ["int"]) (xNot (xIsi (xVar 0) ["bool"])))) sNil)
theorem mo__law_int (k : Nat) : (ev (Mk k) e__law_int.N 60).ss e__law_int.d.scope e__law_int.d.body = m__law_int (Mk k).call := by kernel_rfl
def m__law_is_name (C : Str → List Sl → Cr) : XS := (sCons (sIf (tOr (tNot (tE (xIsi (xVar 0) ["str"]))) (tNot (tCm (xCmp2 .LtE .LtE (xC (.int (1))) (xBi "len" (xACons (xVar 0) xANil)) (xC (.int (8))))))) (sCons (sRet (xC (.bl false))) sNil) sNil) (sCons (sRet (xNot (xComp [1] (iGen (xVar 0)) (agI 1) (tCm (xCmp .NotIn (xVar 1) (xC (.str (PySem.Str.ofString "abcdefghijklmnopqrstuvwxyz"))))) (xVar 1)))) sNil))
theorem mo__law_is_name (k : Nat) : (ev (Mk k) e__law_is_name.N 60).ss e__law_is_name.d.scope e__law_is_name.d.body = m__law_is_name (Mk k).call := by kernel_rfl
def m__law_is_wire (C : Str → List Sl → Cr) : XS := (sCons (sIf (tOr (tNot (tE (xIsi (xVar 0) ["list", "tuple"]))) (tCm (xCmp .NotEq (xBi "len" (xACons (xVar 0) xANil)) (xC (.int (2)))))) (sCons (sRet (xC (.bl false))) sNil) sNil) (sCons (sRet (xAnd (xOwn (C "_law_is_name") [] (xACons (xIx (xVar 0) (xC (.int (0)))) xANil)) (xOwn (C "_law_whole") [] (xACons (xIx (xVar 0) (xC (.int (1)))) (xACons (xC (.int (2))) (xACons (xC (.int (4))) xANil)))))) sNil))
theorem mo__law_is_wire (k : Nat) : (ev (Mk k) e__law_is_wire.N 60).ss e__law_is_wire.d.scope e__law_is_wire.d.body = m__law_is_wire (Mk k).call := by kernel_rfl
def m__law_is_filling (C : Str → List Sl → Cr) : XS := (sCons (sIf (tOr (tNot (tE (xIsi (xVar 1) ["list", "tuple"]))) (tCm (xCmp .NotEq (xBi "len" (xACons (xVar 1) xANil)) (xBi "len" (xACons (xVar 0) xANil))))) (sCons (sRet (xC (.bl false))) sNil) sNil) (sCons (sRet (xNot (xComp [2] (iRng1 (xBi "len" (xACons (xVar 0) xANil))) (agI 2) (tNot (tE (xOwn (C "_law_whole") [] (xACons (xIx (xVar 1) (xVar 2)) (xACons (xC (.int (0))) (xACons (xBin .Sub (xIx (xVar 0) (xVar 2)) (xC (.int (1)))) xANil)))))) (xVar 2)))) sNil))
theorem mo__law_is_filling (k : Nat) : (ev (Mk k) e__law_is_filling.N 60).ss e__law_is_filling.d.scope e__law_is_filling.d.body = m__law_is_filling (Mk k).call := by kernel_rfl
def m__law_no_wire (C : Str → List Sl → Cr) : XS := (sCons (sRet (xIx (xTup (xCons (xTup (xCons (xC (.str (PySem.Str.ofString ""))) (xCons (xC (.int (2))) xNil))) (xCons (xTup (xCons (xC (.str (PySem.Str.ofString "abcdefghi"))) (xCons (xC (.int (2))) xNil))) (xCons (xTup (xCons (xC (.str (PySem.Str.ofString "A"))) (xCons (xC (.int (2))) xNil))) (xCons (xTup (xCons (xC (.str (PySem.Str.ofString "a"))) (xCons (xC (.int (1))) xNil))) (xCons (xTup (xCons (xC (.str (PySem.Str.ofString "a"))) (xCons (xC (.int (5))) xNil))) (xCons (xTup (xCons (xC (.str (PySem.Str.ofString "a"))) (xCons (xC (.bl true)) xNil))) (xCons (xTup (xCons (xC (.str (PySem.Str.ofString "a"))) xNil)) (xCons (xTup (xCons (xC (.str (PySem.Str.ofString "a"))) (xCons (xC (.int (2))) (xCons (xC (.int (3))) xNil)))) (xCons (xC (.str (PySem.Str.ofString "ab"))) (xCons (xLst (xCons (xC (.str (PySem.Str.ofString "a"))) (xCons (xC (.str (PySem.Str.ofString "2"))) xNil))) (xCons (xC (.non)) (xCons (xC (.int (5))) (xCons (xTup (xCons (xC (.int (1))) (xCons (xC (.int (2))) xNil))) xNil)))))))))))))) (xOwn (C "_law_take") [] (xACons (xVar 0) (xACons (xC (.int (13))) xANil))))) sNil)
theorem mo__law_no_wire (k : Nat) : (ev (Mk k) e__law_no_wire.N 60).ss e__law_no_wire.d.scope e__law_no_wire.d.body = m__law_no_wire (Mk k).call := by kernel_rfl
def m__law_no_name (C : Str → List Sl → Cr) : XS := (sCons (sRet (xIx (xTup (xCons (xC (.str (PySem.Str.ofString ""))) (xCons (xC (.str (PySem.Str.ofString "A"))) (xCons (xC (.str (PySem.Str.ofString "abcdefghi"))) (xCons (xC (.non)) (xCons (xC (.int (5))) (xCons (xC (.bl true)) (xCons (xTup (xCons (xC (.str (PySem.Str.ofString "a"))) xNil)) (xCons (xC (.str (PySem.Str.ofString "a1"))) xNil))))))))) (xOwn (C "_law_take") [] (xACons (xVar 0) (xACons (xC (.int (8))) xANil))))) sNil)
theorem mo__law_no_name (k : Nat) : (ev (Mk k) e__law_no_name.N 60).ss e__law_no_name.d.scope e__law_no_name.d.body = m__law_no_name (Mk k).call := by kernel_rfl
def m__law_spoilt_row (C : Str → List Sl → Cr) : XS := (sCons (sSet 3 (xBi "list" (xACons (xVar 2) xANil))) (sCons (sSet 4 (xOwn (C "_law_take") [] (xACons (xVar 0) (xACons (xC (.int (5))) xANil)))) (sCons (sIf (tCm (xCmp .Eq (xVar 4) (xC (.int (0))))) (sCons (sRet (xOwn (C "_law_rid") [] (xACons (xVar 0) xANil))) sNil) sNil) (sCons (sIf (tAnd (tCm (xCmp .Eq (xVar 4) (xC (.int (1))))) (tE (xVar 3))) (sCons (sSet 5 (xOwn (C "_law_take") [] (xACons (xVar 0) (xACons (xBi "len" (xACons (xVar 3) xANil)) xANil)))) (sCons (sSub (xVar 3) (xVar 5) (xOwn (C "_law_odd") [] (xACons (xVar 0) (xACons (xIx (xVar 1) (xVar 5)) xANil)))) sNil)) sNil) (sCons (sIf (tAnd (tCm (xCmp .Eq (xVar 4) (xC (.int (2))))) (tE (xVar 3))) (sCons (sDrop (xPop 3)) sNil) sNil) (sCons (sIf (tCm (xCmp .Eq (xVar 4) (xC (.int (3))))) (sCons (sDrop (xApp 3 (xC (.int (0))))) sNil) sNil) (sCons (sRet (xOwn (C "_law_lists") [] (xACons (xVar 0) (xACons (xVar 3) xANil)))) sNil)))))))
theorem mo__law_spoilt_row (k : Nat) : (ev (Mk k) e__law_spoilt_row.N 60).ss e__law_spoilt_row.d.scope e__law_spoilt_row.d.body = m__law_spoilt_row (Mk k).call := by kernel_rfl
def m__law_by_number (C : Str → List Sl → Cr) : XS := (sCons (sTry (fun x => LawP.prg.tab.isx x "NoFilling") 2 (sCons (sSet 3 (xOwn (C "filling_by_number") [] (xACons (xVar 0) (xACons (xVar 1) xANil)))) sNil) (qSet 3 (qLst (qCons (qFld LawP.prg.tab.fok "thing") qNil)))) (sCons (sRet (xVar 3)) sNil))
theorem mo__law_by_number (k : Nat) : (ev (Mk k) e__law_by_number.N 60).ss e__law_by_number.d.scope e__law_by_number.d.body = m__law_by_number (Mk k).call := by kernel_rfl
def m__law_its_number (C : Str → List Sl → Cr) : XS := (sCons (sTry (fun x => LawP.prg.tab.isx x "NoFilling") 2 (sCons (sSet 3 (xOwn (C "filling_number") [] (xACons (xVar 0) (xACons (xVar 1) xANil)))) sNil) (qSet 3 (qLst (qCons (qFld LawP.prg.tab.fok "thing") qNil)))) (sCons (sRet (xVar 3)) sNil))
theorem mo__law_its_number (k : Nat) : (ev (Mk k) e__law_its_number.N 60).ss e__law_its_number.d.scope e__law_its_number.d.body = m__law_its_number (Mk k).call := by kernel_rfl
def m__law_drawn_sizes (C : Str → List Sl → Cr) : XS := (sCons (sSet 1 (xLst xNil)) (sCons (sFor (iRng1 (xOwn (C "_law_take") [] (xACons (xVar 0) (xACons (xC (.int (7))) xANil)))) (agI 2) (sCons (sSet 3 (xBin .Add (xC (.int (1))) (xOwn (C "_law_take") [] (xACons (xVar 0) (xACons (xIte (tCm (xCmp .Eq (xOwn (C "_law_take") [] (xACons (xVar 0) (xACons (xC (.int (4))) xANil))) (xC (.int (0))))) (xC (.int (40))) (xC (.int (4)))) xANil))))) (sCons (sIf (tCm (xCmp .LtE (xBin .Mult (xOwn (C "_law_many") [] (xACons (xVar 1) xANil)) (xVar 3)) (xC (.int (500))))) (sCons (sDrop (xApp 1 (xVar 3))) sNil) sNil) sNil))) (sCons (sRet (xVar 1)) sNil)))
theorem mo__law_drawn_sizes (k : Nat) : (ev (Mk k) e__law_drawn_sizes.N 60).ss e__law_drawn_sizes.d.scope e__law_drawn_sizes.d.body = m__law_drawn_sizes (Mk k).call := by kernel_rfl
def m_law (C : Str → List Sl → Cr) (Gn : Str → List D → Option (List D)) : XS := (sCons (sSet 1 (xOwn (C "_law_hand") [] (xACons (xVar 0) xANil))) (sCons (sSet 2 (xOwn (C "_law_drawn_sizes") [] (xACons (xVar 1) xANil))) (sCons (sSet 3 (xOwn (C "_law_many") [] (xACons (xVar 2) xANil))) (sCons (sSet 4 (xOwn (C "_law_fillings") [] (xACons (xVar 2) xANil))) (sCons (sSet 5 (xOwn (C "count_fillings") [] (xACons (xBi "tuple" (xACons (xVar 2) xANil)) xANil))) (sCons (sIf (tOr (tNot (tE (xOwn (C "_law_int") [] (xACons (xVar 5) xANil)))) (tOr (tCm (xCmp .NotEq (xVar 5) (xVar 3))) (tOr (tCm (xCmp .NotEq (xLGen (Gn "fillings_of") (xCons (xBi "list" (xACons (xVar 2) xANil)) xNil)) (xVar 4))) (tNot (tE (xOwn (C "_law_tuples") [] (xACons (xBi "tuple" (xACons (xLGen (Gn "fillings_of") (xCons (xBi "tuple" (xACons (xVar 2) xANil)) xNil)) xANil)) xANil))))))) (sCons (sRet (xC (.bl false))) sNil) sNil) (sCons (sFor (iRng1 (xC (.int (6)))) (agI 6) (sCons (sSet 7 (xOwn (C "_law_take") [] (xACons (xVar 1) (xACons (xVar 3) xANil)))) (sCons (sSet 10 (xOwn (C "_law_by_number") [] (xACons (xOwn (C "_law_lists") [] (xACons (xVar 1) (xACons (xVar 2) xANil))) (xACons (xVar 7) xANil)))) (sCons (sIf (tOr (tNot (tE (xIsi (xVar 10) ["tuple"]))) (tOr (tCm (xCmp .NotEq (xVar 10) (xIx (xVar 4) (xVar 7)))) (tCm (xCmp .NotEq (xOwn (C "_law_its_number") [] (xACons (xVar 2) (xACons (xOwn (C "_law_lists") [] (xACons (xVar 1) (xACons (xVar 10) xANil))) xANil))) (xVar 7))))) (sCons (sRet (xC (.bl false))) sNil) sNil) (sCons (sIf (tCm (xCmp .IsNot (xOwn (C "is_filling") [] (xACons (xVar 2) (xACons (xOwn (C "_law_lists") [] (xACons (xVar 1) (xACons (xIx (xVar 4) (xVar 7)) xANil))) xANil))) (xC (.bl true)))) (sCons (sRet (xC (.bl false))) sNil) sNil) sNil))))) (sCons (sFor (iGen (xLst (xCons (xNeg (xC (.int (1)))) (xCons (xVar 3) (xCons (xBin .Add (xVar 3) (xOwn (C "_law_take") [] (xACons (xVar 1) (xACons (xBin .Pow (xC (.int (10))) (xC (.int (12)))) xANil)))) (xCons (xC (.bl true)) (xCons (xC (.bl false)) (xCons (xC (.non)) (xCons (xC (.str (PySem.Str.ofString "0"))) (xCons (xTup (xCons (xC (.int (0))) xNil)) xNil)))))))))) (agI 7) (sCons (sSet 5 (xOwn (C "_law_by_number") [] (xACons (xVar 2) (xACons (xVar 7) xANil)))) (sCons (sIf (tOr (tNot (tE (xIsi (xVar 5) ["list"]))) (tNot (tE (xOwn (C "_law_like") [] (xACons (xIx (xVar 5) (xC (.int (0)))) (xACons (xVar 7) xANil)))))) (sCons (sRet (xC (.bl false))) sNil) sNil) sNil))) (sCons (sFor (iRng1 (xC (.int (4)))) (agI 6) (sCons (sSet 11 (xOwn (C "_law_spoilt_row") [] (xACons (xVar 1) (xACons (xVar 2) (xACons (xIx (xVar 4) (xOwn (C "_law_take") [] (xACons (xVar 1) (xACons (xVar 3) xANil)))) xANil))))) (sCons (sSet 12 (xOwn (C "_law_is_filling") [] (xACons (xVar 2) (xACons (xVar 11) xANil)))) (sCons (sSet 5 (xOwn (C "_law_its_number") [] (xACons (xVar 2) (xACons (xVar 11) xANil)))) (sCons (sIf (tOr (tNot (tE (xOwn (C "_law_truth") [] (xACons (xOwn (C "is_filling") [] (xACons (xVar 2) (xACons (xVar 11) xANil))) (xACons (xVar 12) xANil))))) (tCm (xCmp .Eq (xIsi (xVar 5) ["list"]) (xVar 12)))) (sCons (sRet (xC (.bl false))) sNil) sNil) (sCons (sIf (tOr (tAnd (tE (xVar 12)) (tCm (xCmp .NotEq (xVar 5) (xOwn (C "_law_number") [] (xACons (xVar 2) (xACons (xVar 11) xANil)))))) (tAnd (tNot (tE (xVar 12))) (tNot (tE (xOwn (C "_law_like") [] (xACons (xIx (xVar 5) (xC (.int (0)))) (xACons (xVar 11) xANil))))))) (sCons (sRet (xC (.bl false))) sNil) sNil) sNil)))))) (sCons (sSet 8 (xOwn (C "_law_name") [] (xACons (xVar 1) (xACons (xOwn (C "_law_take") [] (xACons (xVar 1) (xACons (xC (.int (26))) xANil))) xANil)))) (sCons (sFor (iGen (xLst (xCons (xVar 8) (xCons (xBin .Add (xVar 8) (xC (.str (PySem.Str.ofString "a")))) (xCons (xBin .Add (xVar 8) (xBin .Mult (xC (.str (PySem.Str.ofString "z"))) (xBin .Sub (xC (.int (8))) (xBi "len" (xACons (xVar 8) xANil))))) (xCons (xBin .Add (xVar 8) (xBin .Mult (xC (.str (PySem.Str.ofString "z"))) (xBin .Sub (xC (.int (9))) (xBi "len" (xACons (xVar 8) xANil))))) (xCons (xBin .Add (xVar 8) (xC (.str (PySem.Str.ofString "1")))) (xCons (xBin .Add (xCut (xVar 8) xPart0 (xPart (xNeg (xC (.int (1)))))) (xC (.str (PySem.Str.ofString "A")))) (xCons (xOwn (C "_law_no_name") [] (xACons (xVar 1) xANil)) (xCons (xLst (xCons (xVar 8) xNil)) xNil)))))))))) (agI 9) (sCons (sIf (tNot (tE (xOwn (C "_law_truth") [] (xACons (xOwn (C "is_name") [] (xACons (xVar 9) xANil)) (xACons (xOwn (C "_law_is_name") [] (xACons (xVar 9) xANil)) xANil))))) (sCons (sRet (xC (.bl false))) sNil) sNil) (sCons (sSet 13 (xOwn (C "_law_take") [] (xACons (xVar 1) (xACons (xC (.int (7))) xANil)))) (sCons (sFor (iGen (xLst (xCons (xTup (xCons (xVar 9) (xCons (xVar 13) xNil))) (xCons (xLst (xCons (xVar 9) (xCons (xVar 13) xNil))) (xCons (xTup (xCons (xVar 9) (xCons (xC (.bl true)) xNil))) (xCons (xTup (xCons (xVar 9) (xCons (xVar 13) (xCons (xVar 13) xNil)))) (xCons (xTup (xCons (xVar 13) (xCons (xVar 9) xNil))) (xCons (xTup (xCons (xVar 9) xNil)) (xCons (xOwn (C "_law_no_wire") [] (xACons (xVar 1) xANil)) xNil))))))))) (agI 14) (sCons (sIf (tNot (tE (xOwn (C "_law_truth") [] (xACons (xOwn (C "is_wire") [] (xACons (xVar 14) xANil)) (xACons (xOwn (C "_law_is_wire") [] (xACons (xVar 14) xANil)) xANil))))) (sCons (sRet (xC (.bl false))) sNil) sNil) sNil)) sNil)))) (sCons (sRet (xAnd (xCmp .Is (xOwn (C "is_wire") [] (xACons (xTup (xCons (xVar 8) (xCons (xC (.int (2))) xNil))) xANil)) (xC (.bl true))) (xAnd (xCmp .Is (xOwn (C "is_wire") [] (xACons (xLst (xCons (xVar 8) (xCons (xC (.int (4))) xNil))) xANil)) (xC (.bl true))) (xCmp .Is (xOwn (C "is_wire") [] (xACons (xTup (xCons (xVar 8) (xCons (xC (.int (5))) xNil))) xANil)) (xC (.bl false)))))) sNil))))))))))))
theorem mo_law (k : Nat) : (ev (Mk k) e_law.N 60).ss e_law.d.scope e_law.d.body = m_law (Mk k).call (Mk k).gen := by kernel_rfl
end LawP
end

section
set_option Elab.async false
set_option linter.all false
set_option maxRecDepth 100000
set_option maxHeartbeats 4000000
namespace LawP
open PySem PySem.Spec L2 VE
theorem call_eq {k : Nat} {x : Str} {e : Ent} {m : XS} (h : prg.ent x = some e) (hm : (ev (Mk k) e.N 60).ss e.d.scope e.d.body = m) {sls : List Sl} (hl : sls.length = e.ps.length) (hp : sls.all parOk = true) :
    (Mk (k + 1)).call x sls = endF sls (m (sls ++ List.replicate (e.N.length - e.ps.length) .un)) := by
  have hx : prg.tab.fns x = some e.fn := by
    show (prg.ent x).map Ent.fn = _
    rw [h]
    rfl
  have e1 : (Mk (k + 1)).call x sls = callF (Mk k) 60 e.fn sls := mdl_call hx sls
  rw [e1]
  unfold callF
  rw [if_pos (by
    show (decide (sls.length = e.ps.length) && sls.all parOk) = true
    rw [hp, hl]
    simp)]
  rw [← hm]
  rfl
theorem log2_lt {i : Int} {n : Nat} (h : i.natAbs < 2 ^ n) (hn : 0 < n) : i.natAbs.log2 < n := by
  by_cases z : i.natAbs = 0
  · rw [z]; simpa using hn
  · exact (Nat.log2_lt z).mpr h
/-- two numbers of at most 400000 bits may be multiplied -/
theorem mulOk_of {i j : Int} (n m : Nat) (h1 : i.natAbs < 2 ^ n) (h2 : j.natAbs < 2 ^ m) (hn : 0 < n) (hm : 0 < m) (h : n + m ≤ 1000000) : mulOk i j = true := by
  have a := log2_lt h1 hn
  have b := log2_lt h2 hm
  unfold mulOk
  apply decide_eq_true
  omega
theorem c_mixed (k : Nat) (a b : Int) (ha : 0 ≤ a) (ha2 : a < 2147483563) (hb : 0 ≤ b) (hb2 : b ≤ 100) : ∃ r : Int, (Mk (k + 1)).call "_law_mixed" [.fz (.int a), .fz (.int b)] = .ret (.int r) false [.fz (.int a), .fz (.int b)] ∧ 0 ≤ r := by
  rw [call_eq (e := e__law_mixed) rfl (mo__law_mixed k) rfl rfl]
  have g1 : mulOk a 40692 = true := mulOk_of 40 40 (by omega) (by decide) (by decide) (by decide) (by decide)
  have g2 : mulOk b 8117 = true := mulOk_of 40 40 (by omega) (by decide) (by decide) (by decide) (by decide)
  have g3 : mulOk b 104717 = true := mulOk_of 40 40 (by omega) (by decide) (by decide) (by decide) (by decide)
  have g4 : ∀ x : Int, mulOk (x % 2147483399) (x % 2147483399) = true := fun x => mulOk_of 40 40 (by omega) (by omega) (by decide) (by decide) (by decide)
  have g5 : ∀ x : Int, mulOk (x % 2147483629) 16807 = true := fun x => mulOk_of 40 40 (by omega) (by decide) (by decide) (by decide) (by decide)
  have i1 : ∀ x : Int, biD (Str.ofString "int") [.int x] = some (.int x, false) := fun x => rfl
  have d1 : divOk 127 = true := by decide
  have d2 : divOk 11 = true := by decide
  have d3 : divOk 32 = true := by decide
  simp [m__law_mixed, sCons, sSet, sRet, sNil, xBin, xBi, xACons, xANil, xVar, xC, Rs.bind, Rs.toF, Rs.of, Rf.of, deref, putI, VE.stI, mayStore, binD, binI, e__law_mixed, g1, g2, g3, g4, g5, i1, d1, d2, d3, endF, outS]
  omega
/-- the hand: cells, place, big, total -/
def HD (cells : List Int) (pos big tot : Int) : D := .lst [.lst (cells.map .int), .int pos, .int big, .int tot]
structure HOk (cells : List Int) (pos big tot : Int) : Prop where
  c : ∀ x ∈ cells, 0 ≤ x
  l : cells.length ≤ 63
  p : 0 ≤ pos ∧ pos ≤ cells.length
  b : 0 ≤ big
  t : 0 ≤ tot ∧ tot < 2147483563
theorem at40 {a b c d : D} : L2.atI [a, b, c, d] 0 = some a := rfl
theorem at41 {a b c d : D} : L2.atI [a, b, c, d] 1 = some b := rfl
theorem at42 {a b c d : D} : L2.atI [a, b, c, d] 2 = some c := rfl
theorem at43 {a b c d : D} : L2.atI [a, b, c, d] 3 = some d := rfl
theorem ix41 : ixN 4 1 = some 1 := rfl
theorem ix42 : ixN 4 2 = some 2 := rfl
theorem ix43 : ixN 4 3 = some 3 := rfl
theorem bi_len {xs : List D} : biD (Str.ofString "len") [.lst xs] = some (.int xs.length, false) := rfl
theorem bi_int {x : Int} : biD (Str.ofString "int") [.int x] = some (.int x, false) := rfl
theorem cm_eq {a b : Int} : cmpD .Eq (.int a) (.int b) = some (decide (a = b)) := rfl
theorem cm_lt {a b : Int} : cmpD .Lt (.int a) (.int b) = some (decide (a < b)) := rfl
theorem cm_gt {a b : Int} : cmpD .Gt (.int a) (.int b) = some (decide (b < a)) := rfl
theorem cell_at {cells : List Int} {pos : Int} (h1 : 0 ≤ pos) (h2 : pos < cells.length) : ∃ c, c ∈ cells ∧ L2.atI (cells.map D.int) pos = some (.int c) := by
  have h : pos.toNat < cells.length := by omega
  refine ⟨cells[pos.toNat], List.getElem_mem h, ?_⟩
  unfold L2.atI ixN
  rw [if_pos h1, if_pos (by simpa using h2)]
  simp [h]
theorem c_take (k : Nat) {cells : List Int} {pos big tot m : Int} (h : HOk cells pos big tot) (hm : 0 < m) (hm2 : m ≤ 10 ^ 18) : ∃ (r p b t : Int), (Mk (k + 2)).call "_law_take" [.ow .par (HD cells pos big tot), .fz (.int m)] = .ret (.int r) false [.ow .par (HD cells p b t), .fz (.int m)] ∧ 0 ≤ r ∧ r < m ∧ HOk cells p b t := by
  rw [call_eq (k := k + 1) (e := e__law_take) rfl (mo__law_take (k + 1)) rfl rfl]
  have hdiv : divOk m = true := by
    unfold divOk
    have : m.natAbs.log2 < 9000 := Nat.lt_of_lt_of_le (log2_lt (n := 60) (by omega) (by decide)) (by decide)
    simp [hm, this]
  have hpow : ((10 : Int) ^ 18) = 1000000000000000000 := by decide
  obtain ⟨hp0, hp1⟩ := h.p
  obtain ⟨ht0, ht1⟩ := h.t
  have hl := h.l
  by_cases hA : big = 0 ∧ pos < cells.length
  · obtain ⟨rfl, hlt⟩ := hA
    obtain ⟨c, hc, hat⟩ := cell_at hp0 hlt
    have c0 := h.c c hc
    by_cases hs : c < 1000000000000000000
    · obtain ⟨r, hr, r0⟩ := c_mixed k (c % 2147483399) (pos + 1) (by omega) (by omega) (by omega) (by omega)
      refine ⟨r % m, pos + 1, 0, tot, ?_, Int.emod_nonneg _ (by omega), Int.emod_lt_of_pos _ hm, ⟨h.c, h.l, ⟨by omega, by omega⟩, by omega, h.t⟩⟩
      simp [m__law_take, e__law_take, sCons, sSet, sRet, sNil, sIf, sSub, VE.tAnd, tCm, xCmp, xIx, xBin, xBi, xOwn, xACons, xANil, xVar, xC, Rs.bind, Rs.toF, Rs.of, Rf.of, deref, getSl, putI, VE.stI, mayStore, binD, binI, endF, outS, HD, ixD, at40, at41, at42, at43, ix41, ix42, ix43, bi_len, bi_int, cm_eq, cm_lt, cm_gt, lend, lend1, atsOf, giveBack, findArg, comb, whole, hlt, hat, hs, hr, hm, hdiv]
    · refine ⟨c % m, pos + 1, c / m, tot, ?_, Int.emod_nonneg _ (by omega), Int.emod_lt_of_pos _ hm, ⟨h.c, h.l, ⟨by omega, by omega⟩, Int.ediv_nonneg c0 (by omega), h.t⟩⟩
      have hcp : 0 < c := by omega
      simp [m__law_take, e__law_take, sCons, sSet, sRet, sNil, sIf, sSub, VE.tAnd, tCm, xCmp, xIx, xBin, xBi, xOwn, xACons, xANil, xVar, xC, Rs.bind, Rs.toF, Rs.of, Rf.of, deref, getSl, putI, VE.stI, mayStore, binD, binI, endF, outS, HD, ixD, at40, at41, at42, at43, ix41, ix42, ix43, bi_len, bi_int, cm_eq, cm_lt, cm_gt, lend, lend1, atsOf, giveBack, findArg, comb, whole, hlt, hat, hs, hm, hdiv, hcp]
  · have ht : decide (big = 0 ∧ pos < cells.length) = false := decide_eq_false hA
    by_cases hb : 0 < big
    · have hb0 : ¬ big = 0 := by omega
      refine ⟨big % m, pos, big / m, tot, ?_, Int.emod_nonneg _ (by omega), Int.emod_lt_of_pos _ hm, ⟨h.c, h.l, h.p, Int.ediv_nonneg (by omega) (by omega), h.t⟩⟩
      simp [m__law_take, e__law_take, sCons, sSet, sRet, sNil, sIf, sSub, VE.tAnd, tCm, xCmp, xIx, xBin, xBi, xOwn, xACons, xANil, xVar, xC, Rs.bind, Rs.toF, Rs.of, Rf.of, deref, getSl, putI, VE.stI, mayStore, binD, binI, endF, outS, HD, ixD, at40, at41, at42, at43, ix41, ix42, ix43, bi_len, bi_int, cm_eq, cm_lt, cm_gt, lend, lend1, atsOf, giveBack, findArg, comb, whole, hb, hb0, hm, hdiv]
    · have hb0 : big = 0 := by have := h.b; omega
      subst hb0
      have hlt : ¬ pos < cells.length := fun z => hA ⟨rfl, z⟩
      obtain ⟨r, hr, r0⟩ := c_mixed k ((tot + 1) % 2147483563) pos (by omega) (by omega) (by omega) (by omega)
      refine ⟨r % m, pos, 0, (tot + 1) % 2147483563, ?_, Int.emod_nonneg _ (by omega), Int.emod_lt_of_pos _ hm, ⟨h.c, h.l, h.p, h.b, ⟨by omega, by omega⟩⟩⟩
      simp [m__law_take, e__law_take, sCons, sSet, sRet, sNil, sIf, sSub, VE.tAnd, tCm, xCmp, xIx, xBin, xBi, xOwn, xACons, xANil, xVar, xC, Rs.bind, Rs.toF, Rs.of, Rf.of, deref, getSl, putI, VE.stI, mayStore, binD, binI, endF, outS, HD, ixD, at40, at41, at42, at43, ix41, ix42, ix43, bi_len, bi_int, cm_eq, cm_lt, cm_gt, lend, lend1, atsOf, giveBack, findArg, comb, whole, hlt, hr, hm, hdiv]
end LawP
end

section
set_option Elab.async false
set_option linter.all false
set_option maxRecDepth 100000
set_option maxHeartbeats 4000000
namespace LawP
open PySem PySem.Spec L2 VE
/-! ### a loop that keeps an invariant -/
theorem loop_inv {asg : D → Ro → Option Ro} {body : Ro → Rf} (I : Ro → Prop) : ∀ {ds : List D} {ρ : Ro}, I ρ → (∀ d ∈ ds, ∀ ρ, I ρ → ∃ ρ1 ρ2, asg d ρ = some ρ1 ∧ body ρ1 = .next ρ2 ∧ I ρ2) → ∃ ρ2, loopF asg body ds ρ = .next ρ2 ∧ I ρ2
  | [], ρ, h, _ => ⟨ρ, rfl, h⟩
  | d :: ds, ρ, h, hs => by
    obtain ⟨ρ1, ρ2, e1, e2, h2⟩ := hs d List.mem_cons_self ρ h
    obtain ⟨ρ3, e3, h3⟩ := loop_inv I (ds := ds) h2 fun d hd => hs d (List.mem_cons_of_mem _ hd)
    exact ⟨ρ3, by simp only [loopF, e1, e2, e3], h3⟩
theorem bi_abs {x : Int} : biD (Str.ofString "abs") [.int x] = some (.int x.natAbs, false) := by
  have : (if x < 0 then -x else x) = (x.natAbs : Int) := by split <;> omega
  rw [← this]
  rfl
end LawP
end

section
set_option Elab.async false
set_option linter.all false
set_option maxRecDepth 100000
set_option maxHeartbeats 4000000
namespace LawP
open PySem PySem.Spec L2 VE
def handB : XS := (sCons (sSet 1 (xBin .Mod (xBi "int" (xACons (xBin .Add (xBin .Mult (xVar 1) (xC (.int (1033)))) (xBi "int" (xACons (xVar 3) xANil))) xANil)) (xC (.int (2147483563))))) (sCons (sDrop (xApp 2 (xBi "abs" (xACons (xBi "int" (xACons (xVar 3) xANil)) xANil)))) sNil))
theorem hand_body {S : D} {tot c : Int} {cs : List Int} (h0 : 0 ≤ tot) (h1 : tot < 2147483563) (hl : cs.length < 63) :
    handB [.fz S, .fz (.int tot), .ow .own (.lst (cs.map .int)), .fz (.int c)] = .next [.fz S, .fz (.int ((tot * 1033 + c) % 2147483563)), .ow .own (.lst ((cs ++ [(c.natAbs : Int)]).map .int)), .fz (.int c)] := by
  have g : mulOk tot 1033 = true := mulOk_of 40 40 (by omega) (by decide) (by decide) (by decide) (by decide)
  have gs : cs.length < sizeLine := by rw [sizeLine_eq]; omega
  simp [handB, sCons, sSet, sDrop, sNil, xApp, xBin, xBi, xACons, xANil, xVar, xC, Rs.bind, Rs.toF, Rs.of, Rf.of, deref, getSl, putI, VE.stI, mayStore, binD, binI, bi_int, bi_abs, g, whole, gs]
theorem hand_loop {S : D} : ∀ (ns cs : List Int) (tot : Int) (s : Sl), mayStore (some s) = true → 0 ≤ tot → tot < 2147483563 → (∀ c ∈ cs, 0 ≤ c) → cs.length + ns.length ≤ 63 →
    ∃ cs' tot' s', loopF (agI 3) handB (ns.map D.int) [.fz S, .fz (.int tot), .ow .own (.lst (cs.map .int)), s] = .next [.fz S, .fz (.int tot'), .ow .own (.lst (cs'.map .int)), s'] ∧ HOk cs' 0 0 tot'
  | [], cs, tot, s, _, h0, h1, hc, hl => ⟨cs, tot, s, rfl, ⟨hc, by simpa using hl, ⟨by decide, by omega⟩, by decide, ⟨h0, h1⟩⟩⟩
  | n :: ns, cs, tot, s, hs, h0, h1, hc, hl => by
    have hl' : cs.length + (ns.length + 1) ≤ 63 := hl
    obtain ⟨cs', tot', s', e, ok⟩ := hand_loop (S := S) ns (cs ++ [(n.natAbs : Int)]) ((tot * 1033 + n) % 2147483563) (.fz (.int n)) rfl (by omega) (by omega) (fun c hc' => by
      rcases List.mem_append.mp hc' with q | q
      · exact hc c q
      · have : c = n.natAbs := by simpa using q
        omega) (by rw [List.length_append, List.length_singleton]; omega)
    refine ⟨cs', tot', s', ?_, ok⟩
    have em : mayStore ([Sl.fz S, .fz (.int tot), .ow .own (.lst (cs.map .int)), s] : Ro)[3]? = true := hs
    show (match agI 3 (.int n) _ with
      | none => Rf.stuck
      | some ρ1 => (match handB ρ1 with
        | .next ρ2 => loopF (agI 3) handB (ns.map D.int) ρ2
        | .cnt ρ2 => loopF (agI 3) handB (ns.map D.int) ρ2
        | .brk ρ2 => .next ρ2
        | r => r)) = _
    have ea : agI 3 (.int n) [.fz S, .fz (.int tot), .ow .own (.lst (cs.map .int)), s] = some [.fz S, .fz (.int tot), .ow .own (.lst (cs.map .int)), .fz (.int n)] := by
      unfold agI VE.stI
      rw [if_pos em]
      rfl
    rw [ea]
    simp only
    rw [hand_body h0 h1 (by omega)]
    exact e
theorem c_hand (k : Nat) (ns : List Int) (hl : ns.length ≤ 63) : ∃ cs tot as, (Mk (k + 1)).call "_law_hand" [.fz (.scr (ns.map .int))] = .ret (HD cs 0 0 tot) true as ∧ HOk cs 0 0 tot := by
  rw [call_eq (e := e__law_hand) rfl (mo__law_hand k) rfl rfl]
  have bl : biD (Str.ofString "len") [.scr (ns.map D.int)] = some (.int (ns.map D.int).length, false) := rfl
  obtain ⟨cs, tot, s', e, ok⟩ := hand_loop (S := .scr (ns.map .int)) ns [] (ns.length + 71) .un rfl (by omega) (by omega) (fun _ h => by cases h) (by simpa using hl)
  have em : m__law_hand (Mk k).call = sCons (sSet 1 (xBin .Add (xBi "len" (xACons (xVar 0) xANil)) (xC (.int 71)))) (sCons (sSet 2 (xLst xNil)) (sCons (sFor (iGen (xVar 0)) (agI 3) handB) (sCons (sRet (xLst (xCons (xVar 2) (xCons (xC (.int 0)) (xCons (xC (.int 0)) (xCons (xVar 1) xNil)))))) sNil))) := rfl
  rw [em]
  have e1 : sFor (iGen (xVar 0)) (agI 3) handB [.fz (.scr (ns.map .int)), .fz (.int (ns.length + 71)), .ow .own (.lst []), .un] = .next [.fz (.scr (ns.map .int)), .fz (.int tot), .ow .own (.lst (cs.map .int)), s'] := by
    show Rf.map (unlockAll []) (loopF (agI 3) handB (ns.map .int) [.fz (.scr (ns.map .int)), .fz (.int (ns.length + 71)), .ow .own (.lst (([] : List Int).map .int)), .un]) = _
    rw [e]
    rfl
  have sz : szOk 0 = true := by decide
  have sz4 : szOk 4 = true := by decide
  refine ⟨cs, tot, [.fz (.scr (ns.map .int))], ?_, ok⟩
  simp [sCons, sSet, xBin, xBi, xACons, xANil, xLst, xNil, xCons, xVar, xC, Rs.bind, Rs.toF, Rs.of, Rf.of, deref, bl, putI, VE.stI, mayStore, e__law_hand, sRet, endF, outS, e1, sNil, binD, binI, sz, sz4, whole, HD]
end LawP
end

section
set_option Elab.async false
set_option linter.all false
set_option maxRecDepth 100000
set_option maxHeartbeats 4000000
namespace LawP
open PySem PySem.Spec L2 VE
theorem isi_NoneType_int : isiD "NoneType" ["int"] = some false := by decide +kernel
theorem isi_NoneType_bool : isiD "NoneType" ["bool"] = some false := by decide +kernel
theorem isi_NoneType_tuple : isiD "NoneType" ["tuple"] = some false := by decide +kernel
theorem isi_NoneType_str : isiD "NoneType" ["str"] = some false := by decide +kernel
theorem isi_NoneType_list : isiD "NoneType" ["list"] = some false := by decide +kernel
theorem isi_NoneType_seq : isiD "NoneType" ["list", "tuple"] = some false := by decide +kernel
theorem isi_bool_int : isiD "bool" ["int"] = some true := by decide +kernel
theorem isi_bool_bool : isiD "bool" ["bool"] = some true := by decide +kernel
theorem isi_bool_tuple : isiD "bool" ["tuple"] = some false := by decide +kernel
theorem isi_bool_str : isiD "bool" ["str"] = some false := by decide +kernel
theorem isi_bool_list : isiD "bool" ["list"] = some false := by decide +kernel
theorem isi_bool_seq : isiD "bool" ["list", "tuple"] = some false := by decide +kernel
theorem isi_int_int : isiD "int" ["int"] = some true := by decide +kernel
theorem isi_int_bool : isiD "int" ["bool"] = some false := by decide +kernel
theorem isi_int_tuple : isiD "int" ["tuple"] = some false := by decide +kernel
theorem isi_int_str : isiD "int" ["str"] = some false := by decide +kernel
theorem isi_int_list : isiD "int" ["list"] = some false := by decide +kernel
theorem isi_int_seq : isiD "int" ["list", "tuple"] = some false := by decide +kernel
theorem isi_str_int : isiD "str" ["int"] = some false := by decide +kernel
theorem isi_str_bool : isiD "str" ["bool"] = some false := by decide +kernel
theorem isi_str_tuple : isiD "str" ["tuple"] = some false := by decide +kernel
theorem isi_str_str : isiD "str" ["str"] = some true := by decide +kernel
theorem isi_str_list : isiD "str" ["list"] = some false := by decide +kernel
theorem isi_str_seq : isiD "str" ["list", "tuple"] = some false := by decide +kernel
theorem isi_tuple_int : isiD "tuple" ["int"] = some false := by decide +kernel
theorem isi_tuple_bool : isiD "tuple" ["bool"] = some false := by decide +kernel
theorem isi_tuple_tuple : isiD "tuple" ["tuple"] = some true := by decide +kernel
theorem isi_tuple_str : isiD "tuple" ["str"] = some false := by decide +kernel
theorem isi_tuple_list : isiD "tuple" ["list"] = some false := by decide +kernel
theorem isi_tuple_seq : isiD "tuple" ["list", "tuple"] = some true := by decide +kernel
theorem isi_list_int : isiD "list" ["int"] = some false := by decide +kernel
theorem isi_list_bool : isiD "list" ["bool"] = some false := by decide +kernel
theorem isi_list_tuple : isiD "list" ["tuple"] = some false := by decide +kernel
theorem isi_list_str : isiD "list" ["str"] = some false := by decide +kernel
theorem isi_list_list : isiD "list" ["list"] = some true := by decide +kernel
theorem isi_list_seq : isiD "list" ["list", "tuple"] = some true := by decide +kernel
theorem isi_dict_int : isiD "dict" ["int"] = some false := by decide +kernel
theorem isi_dict_bool : isiD "dict" ["bool"] = some false := by decide +kernel
theorem isi_dict_tuple : isiD "dict" ["tuple"] = some false := by decide +kernel
theorem isi_dict_str : isiD "dict" ["str"] = some false := by decide +kernel
theorem isi_dict_list : isiD "dict" ["list"] = some false := by decide +kernel
theorem isi_dict_seq : isiD "dict" ["list", "tuple"] = some false := by decide +kernel
theorem comb_none (s : Sl) : comb s none = s := by cases s <;> rfl
theorem seq_next {a b : XS} {ρ ρ1 : Ro} (h : a ρ = .next ρ1) : sCons a b ρ = b ρ1 := by
  unfold sCons
  rw [h]
theorem seq_ret {a b : XS} {ρ ρ1 : Ro} {v : Bv} (h : a ρ = .ret v ρ1) : sCons a b ρ = .ret v ρ1 := by
  unfold sCons
  rw [h]
abbrev Ms (s : Sl) : Prop := mayStore (some s) = true
theorem ms_un : mayStore (some .un) = true := rfl
theorem ms_fz {d : D} : mayStore (some (.fz d)) = true := rfl
theorem ms_ow {d : D} : mayStore (some (.ow .own d)) = true := rfl
theorem cm_le {a b : Int} : cmpD .LtE (.int a) (.int b) = some (decide (a ≤ b)) := rfl
theorem cm_ge {a b : Int} : cmpD .GtE (.int a) (.int b) = some (decide (b ≤ a)) := rfl
theorem cm_ne {a b : Int} : cmpD .NotEq (.int a) (.int b) = some (!decide (a = b)) := rfl
theorem cm_bb {a b : Bool} : cmpD .Eq (.bl a) (.bl b) = some (decide (a = b)) := by cases a <;> cases b <;> rfl
theorem cm_nbb {a b : Bool} : cmpD .NotEq (.bl a) (.bl b) = some (!decide (a = b)) := by cases a <;> cases b <;> rfl
theorem cm_inb {a b : Bool} : cmpD .IsNot (.bl a) (.bl b) = some (!decide (a = b)) := rfl
theorem cm_isb {a b : Bool} : cmpD .Is (.bl a) (.bl b) = some (decide (a = b)) := rfl
theorem bi_lenT {xs : List D} : biD (Str.ofString "len") [.tup xs] = some (.int xs.length, false) := rfl
theorem bi_lenS {z : Str} : biD (Str.ofString "len") [.str z] = if szOk z.length then some (.int z.length, false) else none := rfl
theorem bi_listL {xs : List D} : biD (Str.ofString "list") [.lst xs] = some (.lst xs, true) := rfl
theorem bi_listT {xs : List D} : biD (Str.ofString "list") [.tup xs] = some (.lst xs, true) := rfl
theorem bi_tupL {xs : List D} : biD (Str.ofString "tuple") [.lst xs] = some (.tup xs, false) := rfl
theorem bi_tupT {xs : List D} : biD (Str.ofString "tuple") [.tup xs] = some (.tup xs, false) := rfl
theorem is_non (d : D) : cmpD .Is d .non = some (isNonD d) := by cases d <;> rfl
theorem sz0 : szOk 0 = true := by decide
theorem sz1 : szOk 1 = true := by decide
theorem sz2 : szOk 2 = true := by decide
theorem sz3 : szOk 3 = true := by decide
theorem sz4 : szOk 4 = true := by decide
theorem sz5 : szOk 5 = true := by decide
theorem sz6 : szOk 6 = true := by decide
theorem sz7 : szOk 7 = true := by decide
theorem sz8 : szOk 8 = true := by decide
/-- of a kind that isinstance tells -/
def kd : D → Bool
  | .scr _ => false
  | .obj _ _ => false
  | _ => true
def isI : D → Bool
  | .int _ => true
  | _ => false
/-- an int within the bounds -/
def wh (d : D) (l h : Int) : Bool := match d with
  | .int x => decide (l ≤ x) && decide (x ≤ h)
  | _ => false
theorem c_int (k : Nat) {d : D} (hk : kd d = true) : (Mk (k + 1)).call "_law_int" [.fz d] = .ret (.bl (isI d)) false [.fz d] := by
  rw [call_eq (e := e__law_int) rfl (mo__law_int k) rfl rfl]
  cases d <;> first | cases hk; done | simp [m__law_int, e__law_int, sCons, sSet, sRet, sNil, sIf, sSub, VE.tAnd, VE.tOr, VE.tNot, tCm, tE, xCmp, xIx, xBin, xBi, xOwn, xIte, xNeg, xTup, xLst, xCons, xNil, xACons, xANil, xVar, xC, Rs.bind, Rs.toF, Rs.of, Rf.of, deref, getSl, putI, VE.stI, mayStore, binD, binI, endF, outS, ixD, at40, at41, at42, at43, bi_len, bi_int, bi_abs, cm_eq, cm_lt, cm_gt, lend, lend1, atsOf, giveBack, findArg, comb, whole, truD, xAnd, xOr, xNot, xCmp2, xIsi, tyD, cm_le, cm_ge, comb_none, isi_NoneType_int, isi_NoneType_bool, isi_NoneType_tuple, isi_NoneType_str, isi_NoneType_list, isi_NoneType_seq, isi_bool_int, isi_bool_bool, isi_bool_tuple, isi_bool_str, isi_bool_list, isi_bool_seq, isi_int_int, isi_int_bool, isi_int_tuple, isi_int_str, isi_int_list, isi_int_seq, isi_str_int, isi_str_bool, isi_str_tuple, isi_str_str, isi_str_list, isi_str_seq, isi_tuple_int, isi_tuple_bool, isi_tuple_tuple, isi_tuple_str, isi_tuple_list, isi_tuple_seq, isi_list_int, isi_list_bool, isi_list_tuple, isi_list_str, isi_list_list, isi_list_seq, isi_dict_int, isi_dict_bool, isi_dict_tuple, isi_dict_str, isi_dict_list, isi_dict_seq, isI]
theorem cn1 {a : Int} : cmpD .IsNot (.int a) .non = some true := rfl
theorem cn3 {a : Int} : cmpD .Is (.int a) .non = some false := rfl
theorem c_is_whole (k : Nat) {d : D} {l h : Int} (hk : kd d = true) : (Mk (k + 1)).call "is_whole" [.fz d, .fz (.int l), .fz (.int h)] = .ret (.bl (wh d l h)) false [.fz d, .fz (.int l), .fz (.int h)] := by
  rw [call_eq (e := e_is_whole) rfl (mo_is_whole k) rfl rfl]
  cases d with
  | int x =>
    by_cases h1 : x < l
    · have h2 : ¬ l ≤ x := by omega
      simp [m_is_whole, e_is_whole, sCons, sSet, sRet, sNil, sIf, sSub, VE.tAnd, VE.tOr, VE.tNot, tCm, tE, xCmp, xIx, xBin, xBi, xOwn, xIte, xNeg, xTup, xLst, xCons, xNil, xACons, xANil, xVar, xC, Rs.bind, Rs.toF, Rs.of, Rf.of, deref, getSl, putI, VE.stI, mayStore, binD, binI, endF, outS, ixD, at40, at41, at42, at43, bi_len, bi_int, bi_abs, cm_eq, cm_lt, cm_gt, lend, lend1, atsOf, giveBack, findArg, comb, whole, truD, xAnd, xOr, xNot, xCmp2, xIsi, tyD, cm_le, cm_ge, comb_none, isi_NoneType_int, isi_NoneType_bool, isi_NoneType_tuple, isi_NoneType_str, isi_NoneType_list, isi_NoneType_seq, isi_bool_int, isi_bool_bool, isi_bool_tuple, isi_bool_str, isi_bool_list, isi_bool_seq, isi_int_int, isi_int_bool, isi_int_tuple, isi_int_str, isi_int_list, isi_int_seq, isi_str_int, isi_str_bool, isi_str_tuple, isi_str_str, isi_str_list, isi_str_seq, isi_tuple_int, isi_tuple_bool, isi_tuple_tuple, isi_tuple_str, isi_tuple_list, isi_tuple_seq, isi_list_int, isi_list_bool, isi_list_tuple, isi_list_str, isi_list_list, isi_list_seq, isi_dict_int, isi_dict_bool, isi_dict_tuple, isi_dict_str, isi_dict_list, isi_dict_seq, cn1, cn3, wh, h1, h2]
    · have h2 : l ≤ x := by omega
      simp [m_is_whole, e_is_whole, sCons, sSet, sRet, sNil, sIf, sSub, VE.tAnd, VE.tOr, VE.tNot, tCm, tE, xCmp, xIx, xBin, xBi, xOwn, xIte, xNeg, xTup, xLst, xCons, xNil, xACons, xANil, xVar, xC, Rs.bind, Rs.toF, Rs.of, Rf.of, deref, getSl, putI, VE.stI, mayStore, binD, binI, endF, outS, ixD, at40, at41, at42, at43, bi_len, bi_int, bi_abs, cm_eq, cm_lt, cm_gt, lend, lend1, atsOf, giveBack, findArg, comb, whole, truD, xAnd, xOr, xNot, xCmp2, xIsi, tyD, cm_le, cm_ge, comb_none, isi_NoneType_int, isi_NoneType_bool, isi_NoneType_tuple, isi_NoneType_str, isi_NoneType_list, isi_NoneType_seq, isi_bool_int, isi_bool_bool, isi_bool_tuple, isi_bool_str, isi_bool_list, isi_bool_seq, isi_int_int, isi_int_bool, isi_int_tuple, isi_int_str, isi_int_list, isi_int_seq, isi_str_int, isi_str_bool, isi_str_tuple, isi_str_str, isi_str_list, isi_str_seq, isi_tuple_int, isi_tuple_bool, isi_tuple_tuple, isi_tuple_str, isi_tuple_list, isi_tuple_seq, isi_list_int, isi_list_bool, isi_list_tuple, isi_list_str, isi_list_list, isi_list_seq, isi_dict_int, isi_dict_bool, isi_dict_tuple, isi_dict_str, isi_dict_list, isi_dict_seq, cn1, cn3, wh, h1, h2]
  | scr _ => cases hk
  | obj _ _ => cases hk
  | _ => simp [m_is_whole, e_is_whole, sCons, sSet, sRet, sNil, sIf, sSub, VE.tAnd, VE.tOr, VE.tNot, tCm, tE, xCmp, xIx, xBin, xBi, xOwn, xIte, xNeg, xTup, xLst, xCons, xNil, xACons, xANil, xVar, xC, Rs.bind, Rs.toF, Rs.of, Rf.of, deref, getSl, putI, VE.stI, mayStore, binD, binI, endF, outS, ixD, at40, at41, at42, at43, bi_len, bi_int, bi_abs, cm_eq, cm_lt, cm_gt, lend, lend1, atsOf, giveBack, findArg, comb, whole, truD, xAnd, xOr, xNot, xCmp2, xIsi, tyD, cm_le, cm_ge, comb_none, isi_NoneType_int, isi_NoneType_bool, isi_NoneType_tuple, isi_NoneType_str, isi_NoneType_list, isi_NoneType_seq, isi_bool_int, isi_bool_bool, isi_bool_tuple, isi_bool_str, isi_bool_list, isi_bool_seq, isi_int_int, isi_int_bool, isi_int_tuple, isi_int_str, isi_int_list, isi_int_seq, isi_str_int, isi_str_bool, isi_str_tuple, isi_str_str, isi_str_list, isi_str_seq, isi_tuple_int, isi_tuple_bool, isi_tuple_tuple, isi_tuple_str, isi_tuple_list, isi_tuple_seq, isi_list_int, isi_list_bool, isi_list_tuple, isi_list_str, isi_list_list, isi_list_seq, isi_dict_int, isi_dict_bool, isi_dict_tuple, isi_dict_str, isi_dict_list, isi_dict_seq, wh]
theorem c_whole (k : Nat) {d : D} {l h : Int} (hk : kd d = true) : (Mk (k + 1)).call "_law_whole" [.fz d, .fz (.int l), .fz (.int h)] = .ret (.bl (wh d l h)) false [.fz d, .fz (.int l), .fz (.int h)] := by
  rw [call_eq (e := e__law_whole) rfl (mo__law_whole k) rfl rfl]
  cases d with
  | int x =>
    by_cases h1 : l ≤ x
    · simp [m__law_whole, e__law_whole, sCons, sSet, sRet, sNil, sIf, sSub, VE.tAnd, VE.tOr, VE.tNot, tCm, tE, xCmp, xIx, xBin, xBi, xOwn, xIte, xNeg, xTup, xLst, xCons, xNil, xACons, xANil, xVar, xC, Rs.bind, Rs.toF, Rs.of, Rf.of, deref, getSl, putI, VE.stI, mayStore, binD, binI, endF, outS, ixD, at40, at41, at42, at43, bi_len, bi_int, bi_abs, cm_eq, cm_lt, cm_gt, lend, lend1, atsOf, giveBack, findArg, comb, whole, truD, xAnd, xOr, xNot, xCmp2, xIsi, tyD, cm_le, cm_ge, comb_none, isi_NoneType_int, isi_NoneType_bool, isi_NoneType_tuple, isi_NoneType_str, isi_NoneType_list, isi_NoneType_seq, isi_bool_int, isi_bool_bool, isi_bool_tuple, isi_bool_str, isi_bool_list, isi_bool_seq, isi_int_int, isi_int_bool, isi_int_tuple, isi_int_str, isi_int_list, isi_int_seq, isi_str_int, isi_str_bool, isi_str_tuple, isi_str_str, isi_str_list, isi_str_seq, isi_tuple_int, isi_tuple_bool, isi_tuple_tuple, isi_tuple_str, isi_tuple_list, isi_tuple_seq, isi_list_int, isi_list_bool, isi_list_tuple, isi_list_str, isi_list_list, isi_list_seq, isi_dict_int, isi_dict_bool, isi_dict_tuple, isi_dict_str, isi_dict_list, isi_dict_seq, wh, h1]
    · simp [m__law_whole, e__law_whole, sCons, sSet, sRet, sNil, sIf, sSub, VE.tAnd, VE.tOr, VE.tNot, tCm, tE, xCmp, xIx, xBin, xBi, xOwn, xIte, xNeg, xTup, xLst, xCons, xNil, xACons, xANil, xVar, xC, Rs.bind, Rs.toF, Rs.of, Rf.of, deref, getSl, putI, VE.stI, mayStore, binD, binI, endF, outS, ixD, at40, at41, at42, at43, bi_len, bi_int, bi_abs, cm_eq, cm_lt, cm_gt, lend, lend1, atsOf, giveBack, findArg, comb, whole, truD, xAnd, xOr, xNot, xCmp2, xIsi, tyD, cm_le, cm_ge, comb_none, isi_NoneType_int, isi_NoneType_bool, isi_NoneType_tuple, isi_NoneType_str, isi_NoneType_list, isi_NoneType_seq, isi_bool_int, isi_bool_bool, isi_bool_tuple, isi_bool_str, isi_bool_list, isi_bool_seq, isi_int_int, isi_int_bool, isi_int_tuple, isi_int_str, isi_int_list, isi_int_seq, isi_str_int, isi_str_bool, isi_str_tuple, isi_str_str, isi_str_list, isi_str_seq, isi_tuple_int, isi_tuple_bool, isi_tuple_tuple, isi_tuple_str, isi_tuple_list, isi_tuple_seq, isi_list_int, isi_list_bool, isi_list_tuple, isi_list_str, isi_list_list, isi_list_seq, isi_dict_int, isi_dict_bool, isi_dict_tuple, isi_dict_str, isi_dict_list, isi_dict_seq, wh, h1]
  | scr _ => cases hk
  | obj _ _ => cases hk
  | _ => simp [m__law_whole, e__law_whole, sCons, sSet, sRet, sNil, sIf, sSub, VE.tAnd, VE.tOr, VE.tNot, tCm, tE, xCmp, xIx, xBin, xBi, xOwn, xIte, xNeg, xTup, xLst, xCons, xNil, xACons, xANil, xVar, xC, Rs.bind, Rs.toF, Rs.of, Rf.of, deref, getSl, putI, VE.stI, mayStore, binD, binI, endF, outS, ixD, at40, at41, at42, at43, bi_len, bi_int, bi_abs, cm_eq, cm_lt, cm_gt, lend, lend1, atsOf, giveBack, findArg, comb, whole, truD, xAnd, xOr, xNot, xCmp2, xIsi, tyD, cm_le, cm_ge, comb_none, isi_NoneType_int, isi_NoneType_bool, isi_NoneType_tuple, isi_NoneType_str, isi_NoneType_list, isi_NoneType_seq, isi_bool_int, isi_bool_bool, isi_bool_tuple, isi_bool_str, isi_bool_list, isi_bool_seq, isi_int_int, isi_int_bool, isi_int_tuple, isi_int_str, isi_int_list, isi_int_seq, isi_str_int, isi_str_bool, isi_str_tuple, isi_str_str, isi_str_list, isi_str_seq, isi_tuple_int, isi_tuple_bool, isi_tuple_tuple, isi_tuple_str, isi_tuple_list, isi_tuple_seq, isi_list_int, isi_list_bool, isi_list_tuple, isi_list_str, isi_list_list, isi_list_seq, isi_dict_int, isi_dict_bool, isi_dict_tuple, isi_dict_str, isi_dict_list, isi_dict_seq, wh]
theorem c_truth (k : Nat) {a b : Bool} : (Mk (k + 1)).call "_law_truth" [.fz (.bl a), .fz (.bl b)] = .ret (.bl (decide (a = b))) false [.fz (.bl a), .fz (.bl b)] := by
  rw [call_eq (e := e__law_truth) rfl (mo__law_truth k) rfl rfl]
  simp [m__law_truth, e__law_truth, sCons, sSet, sRet, sNil, sIf, sSub, VE.tAnd, VE.tOr, VE.tNot, tCm, tE, xCmp, xIx, xBin, xBi, xOwn, xIte, xNeg, xTup, xLst, xCons, xNil, xACons, xANil, xVar, xC, Rs.bind, Rs.toF, Rs.of, Rf.of, deref, getSl, putI, VE.stI, mayStore, binD, binI, endF, outS, ixD, at40, at41, at42, at43, bi_len, bi_int, bi_abs, cm_eq, cm_lt, cm_gt, lend, lend1, atsOf, giveBack, findArg, comb, whole, truD, xAnd, xOr, xNot, xCmp2, xIsi, tyD, cm_le, cm_ge, comb_none, isi_NoneType_int, isi_NoneType_bool, isi_NoneType_tuple, isi_NoneType_str, isi_NoneType_list, isi_NoneType_seq, isi_bool_int, isi_bool_bool, isi_bool_tuple, isi_bool_str, isi_bool_list, isi_bool_seq, isi_int_int, isi_int_bool, isi_int_tuple, isi_int_str, isi_int_list, isi_int_seq, isi_str_int, isi_str_bool, isi_str_tuple, isi_str_str, isi_str_list, isi_str_seq, isi_tuple_int, isi_tuple_bool, isi_tuple_tuple, isi_tuple_str, isi_tuple_list, isi_tuple_seq, isi_list_int, isi_list_bool, isi_list_tuple, isi_list_str, isi_list_list, isi_list_seq, isi_dict_int, isi_dict_bool, isi_dict_tuple, isi_dict_str, isi_dict_list, isi_dict_seq, cm_bb]
/-! ### sizes -/
abbrev IL (xs : List Int) : List D := xs.map D.int
/-- a row of sizes, as it is handed over -/
def Sz (s : Sl) (ss : List Int) : Prop := s = .ow .par (.lst (IL ss)) ∨ s = .fz (.lst (IL ss)) ∨ s = .fz (.tup (IL ss))
theorem Sz.par {s : Sl} {ss : List Int} (h : Sz s ss) : parOk s = true := by
  rcases h with rfl | rfl | rfl <;> rfl
/-- locked while it is walked -/
def lkd : Sl → Sl
  | .ow _ d => .ow .lck d
  | s => s
def prod (ss : List Int) (a : Int) : Int := ss.foldl (fun x y => x * y) a
def cntB : XS := (sCons (sSet 1 (xBin .Mult (xVar 1) (xVar 2))) sNil)
theorem cnt_loop {s0 : Sl} : ∀ (ss : List Int) (a : Int) (n : Nat) (s : Sl), Ms s → a.natAbs < 2 ^ n → 0 < n → n + 6 * ss.length ≤ 1000 → (∀ x ∈ ss, 0 < x ∧ x ≤ 40) →
    ∃ s', loopF (agI 2) cntB (IL ss) [s0, .fz (.int a), s] = .next [s0, .fz (.int (prod ss a)), s']
  | [], a, n, s, _, _, _, _, _ => ⟨s, rfl⟩
  | x :: ss, a, n, s, ms, hb, hn, hl, hx => by
    have hl' : n + 6 * (ss.length + 1) ≤ 1000 := hl
    obtain ⟨x0, x1⟩ := hx x List.mem_cons_self
    have xb : x.natAbs < 2 ^ 6 := by omega
    have g : mulOk a x = true := mulOk_of n 6 hb xb hn (by decide) (by omega)
    have hb2 : (a * x).natAbs < 2 ^ (n + 6) := by
      rw [Int.natAbs_mul, Nat.pow_add]
      exact Nat.mul_lt_mul'' hb xb
    obtain ⟨s', e⟩ := cnt_loop (s0 := s0) ss (a * x) (n + 6) (.fz (.int x)) rfl hb2 (by omega) (by omega) (fun y hy => hx y (List.mem_cons_of_mem _ hy))
    refine ⟨s', ?_⟩
    have ea : agI 2 (.int x) [s0, .fz (.int a), s] = some [s0, .fz (.int a), .fz (.int x)] := by
      unfold agI VE.stI
      exact if_pos ms
    have eb : cntB [s0, .fz (.int a), .fz (.int x)] = .next [s0, .fz (.int (a * x)), .fz (.int x)] := by
      simp [cntB, sCons, sSet, sRet, sNil, sIf, sSub, VE.tAnd, VE.tOr, VE.tNot, tCm, tE, xCmp, xIx, xBin, xBi, xOwn, xIte, xNeg, xTup, xLst, xCons, xNil, xACons, xANil, xVar, xC, Rs.bind, Rs.toF, Rs.of, Rf.of, deref, getSl, putI, VE.stI, mayStore, binD, binI, endF, outS, ixD, at40, at41, at42, at43, bi_len, bi_int, bi_abs, cm_eq, cm_lt, cm_gt, lend, lend1, atsOf, giveBack, findArg, comb, whole, truD, xAnd, xOr, xNot, xCmp2, xIsi, tyD, cm_le, cm_ge, comb_none, isi_NoneType_int, isi_NoneType_bool, isi_NoneType_tuple, isi_NoneType_str, isi_NoneType_list, isi_NoneType_seq, isi_bool_int, isi_bool_bool, isi_bool_tuple, isi_bool_str, isi_bool_list, isi_bool_seq, isi_int_int, isi_int_bool, isi_int_tuple, isi_int_str, isi_int_list, isi_int_seq, isi_str_int, isi_str_bool, isi_str_tuple, isi_str_str, isi_str_list, isi_str_seq, isi_tuple_int, isi_tuple_bool, isi_tuple_tuple, isi_tuple_str, isi_tuple_list, isi_tuple_seq, isi_list_int, isi_list_bool, isi_list_tuple, isi_list_str, isi_list_list, isi_list_seq, isi_dict_int, isi_dict_bool, isi_dict_tuple, isi_dict_str, isi_dict_list, isi_dict_seq, g]
    show (match agI 2 (.int x) [s0, .fz (.int a), s] with
      | none => Rf.stuck
      | some ρ1 => (match cntB ρ1 with
        | .next ρ2 => loopF (agI 2) cntB (IL ss) ρ2
        | .cnt ρ2 => loopF (agI 2) cntB (IL ss) ρ2
        | .brk ρ2 => .next ρ2
        | r => r)) = _
    rw [ea]
    simp only [eb]
    exact e
/-- sizes within the law's bounds -/
structure SOk (ss : List Int) : Prop where
  b : ∀ x ∈ ss, 0 < x ∧ x ≤ 40
  l : ss.length ≤ 6
theorem cnt_for {s0 : Sl} {ss : List Int} (h : Sz s0 ss) (ok : SOk ss) : ∃ s', sFor (iGen (xVar 0)) (agI 2) cntB [s0, .fz (.int 1), .un] = .next [s0, .fz (.int (prod ss 1)), s'] := by
  have hl := ok.l
  rcases h with rfl | rfl | rfl
  · obtain ⟨s', e⟩ := cnt_loop (s0 := .ow .lck (.lst (IL ss))) ss 1 1 .un rfl (by decide) (by decide) (by omega) ok.b
    exact ⟨s', congrArg (Rf.map (unlockAll [(0, .par)])) e⟩
  · obtain ⟨s', e⟩ := cnt_loop (s0 := .fz (.lst (IL ss))) ss 1 1 .un rfl (by decide) (by decide) (by omega) ok.b
    exact ⟨s', congrArg (Rf.map (unlockAll [])) e⟩
  · obtain ⟨s', e⟩ := cnt_loop (s0 := .fz (.tup (IL ss))) ss 1 1 .un rfl (by decide) (by decide) (by omega) ok.b
    exact ⟨s', congrArg (Rf.map (unlockAll [])) e⟩
theorem c_count (k : Nat) {s0 : Sl} {ss : List Int} (h : Sz s0 ss) (ok : SOk ss) : (Mk (k + 1)).call "count_fillings" [s0] = .ret (.int (prod ss 1)) false [s0] := by
  rw [call_eq (e := e_count_fillings) rfl (mo_count_fillings k) rfl (by simp [h.par])]
  obtain ⟨s', e⟩ := cnt_for h ok
  have em : m_count_fillings (Mk k).call = (sCons (sSet 1 (xC (.int (1)))) (sCons (sFor (iGen (xVar 0)) (agI 2) cntB) (sCons (sRet (xVar 1)) sNil))) := rfl
  rw [em]
  rcases h with rfl | rfl | rfl <;> simp [e_count_fillings, sCons, sSet, sRet, sNil, sIf, sSub, VE.tAnd, VE.tOr, VE.tNot, tCm, tE, xCmp, xIx, xBin, xBi, xOwn, xIte, xNeg, xTup, xLst, xCons, xNil, xACons, xANil, xVar, xC, Rs.bind, Rs.toF, Rs.of, Rf.of, deref, getSl, putI, VE.stI, mayStore, binD, binI, endF, outS, ixD, at40, at41, at42, at43, bi_len, bi_int, bi_abs, cm_eq, cm_lt, cm_gt, lend, lend1, atsOf, giveBack, findArg, comb, whole, truD, xAnd, xOr, xNot, xCmp2, xIsi, tyD, cm_le, cm_ge, comb_none, isi_NoneType_int, isi_NoneType_bool, isi_NoneType_tuple, isi_NoneType_str, isi_NoneType_list, isi_NoneType_seq, isi_bool_int, isi_bool_bool, isi_bool_tuple, isi_bool_str, isi_bool_list, isi_bool_seq, isi_int_int, isi_int_bool, isi_int_tuple, isi_int_str, isi_int_list, isi_int_seq, isi_str_int, isi_str_bool, isi_str_tuple, isi_str_str, isi_str_list, isi_str_seq, isi_tuple_int, isi_tuple_bool, isi_tuple_tuple, isi_tuple_str, isi_tuple_list, isi_tuple_seq, isi_list_int, isi_list_bool, isi_list_tuple, isi_list_str, isi_list_list, isi_list_seq, isi_dict_int, isi_dict_bool, isi_dict_tuple, isi_dict_str, isi_dict_list, isi_dict_seq, e]
theorem c_many (k : Nat) {s0 : Sl} {ss : List Int} (h : Sz s0 ss) (ok : SOk ss) : (Mk (k + 1)).call "_law_many" [s0] = .ret (.int (prod ss 1)) false [s0] := by
  rw [call_eq (e := e__law_many) rfl (mo__law_many k) rfl (by simp [h.par])]
  obtain ⟨s', e⟩ := cnt_for h ok
  have em : m__law_many (Mk k).call = (sCons (sSet 1 (xC (.int (1)))) (sCons (sFor (iGen (xVar 0)) (agI 2) cntB) (sCons (sRet (xVar 1)) sNil))) := rfl
  rw [em]
  rcases h with rfl | rfl | rfl <;> simp [e__law_many, sCons, sSet, sRet, sNil, sIf, sSub, VE.tAnd, VE.tOr, VE.tNot, tCm, tE, xCmp, xIx, xBin, xBi, xOwn, xIte, xNeg, xTup, xLst, xCons, xNil, xACons, xANil, xVar, xC, Rs.bind, Rs.toF, Rs.of, Rf.of, deref, getSl, putI, VE.stI, mayStore, binD, binI, endF, outS, ixD, at40, at41, at42, at43, bi_len, bi_int, bi_abs, cm_eq, cm_lt, cm_gt, lend, lend1, atsOf, giveBack, findArg, comb, whole, truD, xAnd, xOr, xNot, xCmp2, xIsi, tyD, cm_le, cm_ge, comb_none, isi_NoneType_int, isi_NoneType_bool, isi_NoneType_tuple, isi_NoneType_str, isi_NoneType_list, isi_NoneType_seq, isi_bool_int, isi_bool_bool, isi_bool_tuple, isi_bool_str, isi_bool_list, isi_bool_seq, isi_int_int, isi_int_bool, isi_int_tuple, isi_int_str, isi_int_list, isi_int_seq, isi_str_int, isi_str_bool, isi_str_tuple, isi_str_str, isi_str_list, isi_str_seq, isi_tuple_int, isi_tuple_bool, isi_tuple_tuple, isi_tuple_str, isi_tuple_list, isi_tuple_seq, isi_list_int, isi_list_bool, isi_list_tuple, isi_list_str, isi_list_list, isi_list_seq, isi_dict_int, isi_dict_bool, isi_dict_tuple, isi_dict_str, isi_dict_list, isi_dict_seq, e]
end LawP
end

section
set_option Elab.async false
set_option linter.all false
set_option maxRecDepth 100000
set_option maxHeartbeats 4000000
namespace LawP
open PySem PySem.Spec L2 VE

/-! ### fillings -/
def dig : List Int → Int → List Int
  | [], _ => []
  | s :: r, n => n % s :: dig r (n / s)
def fil (ss : List Int) (n : Int) : List Int := (dig ss.reverse n).reverse
theorem dig_len : ∀ (rs : List Int) (n : Int), (dig rs n).length = rs.length
  | [], _ => rfl
  | _ :: rs, n => by simp [dig, dig_len rs]
theorem divOk_small {s : Int} (h : 0 < s ∧ s ≤ 40) : divOk s = true := by
  unfold divOk
  have : s.natAbs.log2 < 9000 := Nat.lt_of_lt_of_le (log2_lt (n := 6) (by omega) (by decide)) (by decide)
  simp [h.1, this]
def fillB : XS := (sCons (sDrop (xApp 2 (xBin .Mod (xVar 3) (xVar 4)))) (sCons (sSet 3 (xBin .FloorDiv (xVar 3) (xVar 4))) sNil))
theorem fill_loop {s0 s1 : Sl} : ∀ (rs acc : List Int) (n : Int) (s : Sl), Ms s → acc.length + rs.length ≤ 20 → (∀ x ∈ rs, 0 < x ∧ x ≤ 40) →
    ∃ m s', loopF (agI 4) fillB (IL rs) [s0, s1, .ow .own (.lst (IL acc)), .fz (.int n), s] = .next [s0, s1, .ow .own (.lst (IL (acc ++ dig rs n))), .fz (.int m), s']
  | [], acc, n, s, _, _, _ => ⟨n, s, by simp [dig, loopF]⟩
  | x :: rs, acc, n, s, ms, hl, hx => by
    have hl' : acc.length + (rs.length + 1) ≤ 20 := hl
    have hx0 := hx x List.mem_cons_self
    have g := divOk_small hx0
    have gs : acc.length < sizeLine := by rw [sizeLine_eq]; omega
    obtain ⟨m, s', e⟩ := fill_loop (s0 := s0) (s1 := s1) rs (acc ++ [n % x]) (n / x) (.fz (.int x)) rfl (by rw [List.length_append, List.length_singleton]; omega) (fun y hy => hx y (List.mem_cons_of_mem _ hy))
    refine ⟨m, s', ?_⟩
    have ea : agI 4 (.int x) [s0, s1, .ow .own (.lst (IL acc)), .fz (.int n), s] = some [s0, s1, .ow .own (.lst (IL acc)), .fz (.int n), .fz (.int x)] := by
      unfold agI VE.stI
      exact if_pos ms
    have eb : fillB [s0, s1, .ow .own (.lst (IL acc)), .fz (.int n), .fz (.int x)] = .next [s0, s1, .ow .own (.lst (IL (acc ++ [n % x]))), .fz (.int (n / x)), .fz (.int x)] := by
      simp [fillB, sDrop, xApp, sCons, sSet, sRet, sNil, sIf, sSub, VE.tAnd, VE.tOr, VE.tNot, tCm, tE, xCmp, xIx, xBin, xBi, xOwn, xIte, xNeg, xTup, xLst, xCons, xNil, xACons, xANil, xVar, xC, Rs.bind, Rs.toF, Rs.of, Rf.of, deref, getSl, putI, VE.stI, mayStore, binD, binI, endF, outS, ixD, at40, at41, at42, at43, bi_len, bi_int, bi_abs, cm_eq, cm_lt, cm_gt, lend, lend1, atsOf, giveBack, findArg, comb, whole, truD, xAnd, xOr, xNot, xCmp2, xIsi, tyD, cm_le, cm_ge, comb_none, isi_NoneType_int, isi_NoneType_bool, isi_NoneType_tuple, isi_NoneType_str, isi_NoneType_list, isi_NoneType_seq, isi_bool_int, isi_bool_bool, isi_bool_tuple, isi_bool_str, isi_bool_list, isi_bool_seq, isi_int_int, isi_int_bool, isi_int_tuple, isi_int_str, isi_int_list, isi_int_seq, isi_str_int, isi_str_bool, isi_str_tuple, isi_str_str, isi_str_list, isi_str_seq, isi_tuple_int, isi_tuple_bool, isi_tuple_tuple, isi_tuple_str, isi_tuple_list, isi_tuple_seq, isi_list_int, isi_list_bool, isi_list_tuple, isi_list_str, isi_list_list, isi_list_seq, isi_dict_int, isi_dict_bool, isi_dict_tuple, isi_dict_str, isi_dict_list, isi_dict_seq, g, gs, hx0.1]
    show (match agI 4 (.int x) [s0, s1, .ow .own (.lst (IL acc)), .fz (.int n), s] with
      | none => Rf.stuck
      | some ρ1 => (match fillB ρ1 with
        | .next ρ2 => loopF (agI 4) fillB (IL rs) ρ2
        | .cnt ρ2 => loopF (agI 4) fillB (IL rs) ρ2
        | .brk ρ2 => .next ρ2
        | r => r)) = _
    rw [ea]
    simp only [eb]
    rw [e]
    simp [dig]
theorem c_fill (k : Nat) {s0 : Sl} {ss : List Int} (h : Sz s0 ss) (ok : SOk ss) (n : Int) : (Mk (k + 1)).call "filling_at" [s0, .fz (.int n)] = .ret (.tup (IL (fil ss n))) false [s0, .fz (.int n)] := by
  rw [call_eq (e := e_filling_at) rfl (mo_filling_at k) rfl (by
    show (parOk s0 && (parOk (.fz (.int n)) && true)) = true
    rw [h.par]
    rfl)]
  have hl := ok.l
  obtain ⟨m, s', e⟩ := fill_loop (s0 := s0) (s1 := .fz (.int n)) ss.reverse [] n .un rfl (by simp; omega) (fun x hx => ok.b x (List.mem_reverse.mp hx))
  have em : m_filling_at (Mk k).call = (sCons (sSet 2 (xLst xNil)) (sCons (sSet 3 (xVar 1)) (sCons (sFor (VE.iRev (xBi "list" (xACons (xVar 0) xANil))) (agI 4) fillB) (sCons (sRet (xTupRev (xVar 2))) sNil)))) := rfl
  rw [em]
  have e1 : sFor (VE.iRev (xBi "list" (xACons (xVar 0) xANil))) (agI 4) fillB [s0, .fz (.int n), .ow .own (.lst []), .fz (.int n), .un] = .next [s0, .fz (.int n), .ow .own (.lst (IL (dig ss.reverse n))), .fz (.int m), s'] := by
    have ei : VE.iRev (xBi "list" (xACons (xVar 0) xANil)) [s0, .fz (.int n), .ow .own (.lst []), .fz (.int n), .un] = .ok (IL ss.reverse, []) [s0, .fz (.int n), .ow .own (.lst []), .fz (.int n), .un] := by
      rcases h with rfl | rfl | rfl <;> simp [VE.iRev, walkL, sCons, sSet, sRet, sNil, sIf, sSub, VE.tAnd, VE.tOr, VE.tNot, tCm, tE, xCmp, xIx, xBin, xBi, xOwn, xIte, xNeg, xTup, xLst, xCons, xNil, xACons, xANil, xVar, xC, Rs.bind, Rs.toF, Rs.of, Rf.of, deref, getSl, putI, VE.stI, mayStore, binD, binI, endF, outS, ixD, at40, at41, at42, at43, bi_len, bi_int, bi_abs, cm_eq, cm_lt, cm_gt, lend, lend1, atsOf, giveBack, findArg, comb, whole, truD, xAnd, xOr, xNot, xCmp2, xIsi, tyD, cm_le, cm_ge, comb_none, isi_NoneType_int, isi_NoneType_bool, isi_NoneType_tuple, isi_NoneType_str, isi_NoneType_list, isi_NoneType_seq, isi_bool_int, isi_bool_bool, isi_bool_tuple, isi_bool_str, isi_bool_list, isi_bool_seq, isi_int_int, isi_int_bool, isi_int_tuple, isi_int_str, isi_int_list, isi_int_seq, isi_str_int, isi_str_bool, isi_str_tuple, isi_str_str, isi_str_list, isi_str_seq, isi_tuple_int, isi_tuple_bool, isi_tuple_tuple, isi_tuple_str, isi_tuple_list, isi_tuple_seq, isi_list_int, isi_list_bool, isi_list_tuple, isi_list_str, isi_list_list, isi_list_seq, isi_dict_int, isi_dict_bool, isi_dict_tuple, isi_dict_str, isi_dict_list, isi_dict_seq, bi_listL, bi_listT]
    unfold sFor
    rw [ei]
    have e' : loopF (agI 4) fillB (IL ss.reverse) [s0, .fz (.int n), .ow .own (.lst []), .fz (.int n), .un] = _ := e
    exact congrArg (Rf.map (unlockAll [])) e'
  have hsz : szOk (dig ss.reverse n).length = true := by
    rw [dig_len, List.length_reverse]
    exact decide_eq_true (by rw [sizeLine_eq]; omega)
  rcases h with rfl | rfl | rfl <;> simp [e_filling_at, xTupRev, fil, sCons, sSet, sRet, sNil, sIf, sSub, VE.tAnd, VE.tOr, VE.tNot, tCm, tE, xCmp, xIx, xBin, xBi, xOwn, xIte, xNeg, xTup, xLst, xCons, xNil, xACons, xANil, xVar, xC, Rs.bind, Rs.toF, Rs.of, Rf.of, deref, getSl, putI, VE.stI, mayStore, binD, binI, endF, outS, ixD, at40, at41, at42, at43, bi_len, bi_int, bi_abs, cm_eq, cm_lt, cm_gt, lend, lend1, atsOf, giveBack, findArg, comb, whole, truD, xAnd, xOr, xNot, xCmp2, xIsi, tyD, cm_le, cm_ge, comb_none, isi_NoneType_int, isi_NoneType_bool, isi_NoneType_tuple, isi_NoneType_str, isi_NoneType_list, isi_NoneType_seq, isi_bool_int, isi_bool_bool, isi_bool_tuple, isi_bool_str, isi_bool_list, isi_bool_seq, isi_int_int, isi_int_bool, isi_int_tuple, isi_int_str, isi_int_list, isi_int_seq, isi_str_int, isi_str_bool, isi_str_tuple, isi_str_str, isi_str_list, isi_str_seq, isi_tuple_int, isi_tuple_bool, isi_tuple_tuple, isi_tuple_str, isi_tuple_list, isi_tuple_seq, isi_list_int, isi_list_bool, isi_list_tuple, isi_list_str, isi_list_list, isi_list_seq, isi_dict_int, isi_dict_bool, isi_dict_tuple, isi_dict_str, isi_dict_list, isi_dict_seq, e1, sz0, hsz]
/-! the law's own -/
theorem rng_succ (lo : Int) (n : Nat) : rngD lo (n + 1) = .int lo :: rngD (lo + 1) n := by
  unfold rngD
  rw [List.range_succ_eq_map, List.map_cons, List.map_map]
  congr 1
  · simp
  · apply List.map_congr_left
    intro a _
    simp
    omega
theorem atI_mid {α : Type} (a : List α) (x : α) (b : List α) (i : Int) (h : i = a.length) : L2.atI (a ++ x :: b) i = some x := by
  subst h
  unfold L2.atI ixN
  rw [if_pos (by omega), if_pos (by simp; omega)]
  simp
def lfillB : XS := (sCons (sSet 4 (xIx (xVar 0) (xBin .Sub (xBin .Sub (xBi "len" (xACons (xVar 0) xANil)) (xC (.int (1)))) (xVar 3)))) (sCons (sSet 2 (xBin .Add (xLst (xCons (xBin .Mod (xBi "int" (xACons (xVar 1) xANil)) (xVar 4)) xNil)) (xVar 2))) (sCons (sSet 1 (xBin .FloorDiv (xVar 1) (xVar 4))) sNil)))
theorem lfill_loop {ss : List Int} (hlen : ss.length ≤ 6) (hb : ∀ x ∈ ss, 0 < x ∧ x ≤ 40) : ∀ (rs pre : List Int) (out : List Int) (n : Int) (s s4 : Sl), Ms s → Ms s4 → ss = rs.reverse ++ pre → out.length + rs.length ≤ 20 →
    ∃ m s' s4', loopF (agI 3) lfillB (rngD pre.length rs.length) [.ow .par (.lst (IL ss)), .fz (.int n), .ow .own (.lst (IL out)), s, s4] = .next [.ow .par (.lst (IL ss)), .fz (.int m), .ow .own (.lst (IL ((dig rs n).reverse ++ out))), s', s4']
  | [], pre, out, n, s, s4, _, _, _, _ => ⟨n, s, s4, by simp [dig, loopF, rngD]⟩
  | x :: rs, pre, out, n, s, s4, ms, ms4, hss, hl => by
    have hl' : out.length + (rs.length + 1) ≤ 20 := hl
    have hss' : ss = rs.reverse ++ x :: pre := by rw [hss]; simp
    have hx0 := hb x (by rw [hss']; simp)
    have g := divOk_small hx0
    have gs : szOk (1 + out.length) = true := decide_eq_true (by rw [sizeLine_eq]; omega)
    obtain ⟨m, s', s4', e⟩ := lfill_loop hlen hb rs (x :: pre) (n % x :: out) (n / x) (.fz (.int pre.length)) (.fz (.int x)) rfl rfl hss' (by simp; omega)
    refine ⟨m, s', s4', ?_⟩
    have hat : L2.atI (IL ss) ((IL ss).length - 1 - pre.length) = some (.int x) := by
      rw [hss']
      show L2.atI ((rs.reverse ++ x :: pre).map D.int) _ = _
      rw [List.map_append, List.map_cons]
      exact atI_mid _ _ _ _ (by simp; omega)
    have hat' : L2.atI (IL ss) ((ss.length : Int) - 1 - pre.length) = some (.int x) := by
      rw [← hat]
      simp
    have ea : agI 3 (.int pre.length) [.ow .par (.lst (IL ss)), .fz (.int n), .ow .own (.lst (IL out)), s, s4] = some [.ow .par (.lst (IL ss)), .fz (.int n), .ow .own (.lst (IL out)), .fz (.int pre.length), s4] := by
      unfold agI VE.stI
      exact if_pos ms
    have eb : lfillB [.ow .par (.lst (IL ss)), .fz (.int n), .ow .own (.lst (IL out)), .fz (.int pre.length), s4] = .next [.ow .par (.lst (IL ss)), .fz (.int (n / x)), .ow .own (.lst (IL (n % x :: out))), .fz (.int pre.length), .fz (.int x)] := by
      unfold lfillB
      rw [seq_next (ρ1 := [.ow .par (.lst (IL ss)), .fz (.int n), .ow .own (.lst (IL out)), .fz (.int pre.length), .fz (.int x)]) (by
        have m4 : mayStore (some s4) = true := ms4
        simp [sSet, xIx, xBin, xBi, xACons, xANil, xVar, xC, Rs.bind, Rs.toF, Rs.of, Rf.of, deref, getSl, putI, VE.stI, binD, binI, ixD, bi_len, hat', m4])]
      simp [sCons, sSet, sRet, sNil, sIf, sSub, VE.tAnd, VE.tOr, VE.tNot, tCm, tE, xCmp, xIx, xBin, xBi, xOwn, xIte, xNeg, xTup, xLst, xCons, xNil, xACons, xANil, xVar, xC, Rs.bind, Rs.toF, Rs.of, Rf.of, deref, getSl, putI, VE.stI, mayStore, binD, binI, endF, outS, ixD, at40, at41, at42, at43, bi_len, bi_int, bi_abs, cm_eq, cm_lt, cm_gt, lend, lend1, atsOf, giveBack, findArg, comb, whole, truD, xAnd, xOr, xNot, xCmp2, xIsi, tyD, cm_le, cm_ge, comb_none, isi_NoneType_int, isi_NoneType_bool, isi_NoneType_tuple, isi_NoneType_str, isi_NoneType_list, isi_NoneType_seq, isi_bool_int, isi_bool_bool, isi_bool_tuple, isi_bool_str, isi_bool_list, isi_bool_seq, isi_int_int, isi_int_bool, isi_int_tuple, isi_int_str, isi_int_list, isi_int_seq, isi_str_int, isi_str_bool, isi_str_tuple, isi_str_str, isi_str_list, isi_str_seq, isi_tuple_int, isi_tuple_bool, isi_tuple_tuple, isi_tuple_str, isi_tuple_list, isi_tuple_seq, isi_list_int, isi_list_bool, isi_list_tuple, isi_list_str, isi_list_list, isi_list_seq, isi_dict_int, isi_dict_bool, isi_dict_tuple, isi_dict_str, isi_dict_list, isi_dict_seq, g, gs, hx0.1, sz1]
    have er : rngD (pre.length : Int) (x :: rs).length = .int pre.length :: rngD (((x :: pre).length : Nat) : Int) rs.length := by
      rw [List.length_cons, rng_succ, List.length_cons]
      rfl
    rw [er]
    show (match agI 3 (.int pre.length) [.ow .par (.lst (IL ss)), .fz (.int n), .ow .own (.lst (IL out)), s, s4] with
      | none => Rf.stuck
      | some ρ1 => (match lfillB ρ1 with
        | .next ρ2 => loopF (agI 3) lfillB (rngD (((x :: pre).length : Nat) : Int) rs.length) ρ2
        | .cnt ρ2 => loopF (agI 3) lfillB (rngD (((x :: pre).length : Nat) : Int) rs.length) ρ2
        | .brk ρ2 => .next ρ2
        | r => r)) = _
    rw [ea]
    simp only [eb]
    rw [e]
    simp [dig]
theorem small_of {i : Int} (h0 : 0 ≤ i) (h : i ≤ 10000) : small62 i = true := by
  unfold small62
  rw [decide_eq_true (by omega : -(2 ^ 62) ≤ i), decide_eq_true (by omega : i < 2 ^ 62)]
  rfl
theorem rng1_ok {a : XE} {ρ ρ1 : Ro} {N : Int} (h : a ρ = .ok (.va (.int N) false) ρ1) (hs : small62 N = true) : VE.iRng1 a ρ = .ok (rngD 0 N.toNat, []) ρ1 := by
  unfold VE.iRng1
  rw [h]
  show (if small62 N then Rs.ok (rngD 0 N.toNat, ([] : List (Nat × Md))) ρ1 else .stuck) = _
  rw [if_pos hs]
theorem c_lfill (k : Nat) {ss : List Int} (ok : SOk ss) (n : Int) : (Mk (k + 1)).call "_law_filling" [.ow .par (.lst (IL ss)), .fz (.int n)] = .ret (.tup (IL (fil ss n))) false [.ow .par (.lst (IL ss)), .fz (.int n)] := by
  rw [call_eq (e := e__law_filling) rfl (mo__law_filling k) rfl rfl]
  have hl := ok.l
  obtain ⟨m, s', s4', e⟩ := lfill_loop ok.l ok.b ss.reverse [] [] n .un .un rfl rfl (by simp) (by simp; omega)
  have em : m__law_filling (Mk k).call = (sCons (sSet 2 (xLst xNil)) (sCons (sFor (VE.iRng1 (xBi "len" (xACons (xVar 0) xANil))) (agI 3) lfillB) (sCons (sRet (xBi "tuple" (xACons (xVar 2) xANil))) sNil))) := rfl
  rw [em]
  have hs := small_of (i := ss.length) (by omega) (by omega)
  have e1 : sFor (VE.iRng1 (xBi "len" (xACons (xVar 0) xANil))) (agI 3) lfillB [.ow .par (.lst (IL ss)), .fz (.int n), .ow .own (.lst []), .un, .un] = .next [.ow .par (.lst (IL ss)), .fz (.int m), .ow .own (.lst (IL (fil ss n))), s', s4'] := by
    have ei : VE.iRng1 (xBi "len" (xACons (xVar 0) xANil)) [.ow .par (.lst (IL ss)), .fz (.int n), .ow .own (.lst []), .un, .un] = .ok (rngD 0 ss.length, []) [.ow .par (.lst (IL ss)), .fz (.int n), .ow .own (.lst []), .un, .un] := by
      have q := rng1_ok (a := xBi "len" (xACons (xVar 0) xANil)) (ρ := [.ow .par (.lst (IL ss)), .fz (.int n), .ow .own (.lst []), .un, .un]) (ρ1 := [.ow .par (.lst (IL ss)), .fz (.int n), .ow .own (.lst []), .un, .un]) (N := ss.length) (by
        simp [xBi, xACons, xANil, xVar, Rs.bind, Rs.of, deref, getSl, bi_len]) hs
      rw [Int.toNat_natCast] at q
      exact q
    unfold sFor
    rw [ei]
    have e' : loopF (agI 3) lfillB (rngD 0 ss.length) [.ow .par (.lst (IL ss)), .fz (.int n), .ow .own (.lst []), .un, .un] = .next [.ow .par (.lst (IL ss)), .fz (.int m), .ow .own (.lst (IL (fil ss n))), s', s4'] := by
      have e0 := e
      simp only [List.length_nil, List.length_reverse, List.append_nil] at e0
      exact e0
    exact congrArg (Rf.map (unlockAll [])) e'
  show endF _ (sCons _ _ [.ow .par (.lst (IL ss)), .fz (.int n), .un, .un, .un]) = _
  rw [seq_next (ρ1 := [.ow .par (.lst (IL ss)), .fz (.int n), .ow .own (.lst []), .un, .un]) (by simp [sCons, sSet, sRet, sNil, sIf, sSub, VE.tAnd, VE.tOr, VE.tNot, tCm, tE, xCmp, xIx, xBin, xBi, xOwn, xIte, xNeg, xTup, xLst, xCons, xNil, xACons, xANil, xVar, xC, Rs.bind, Rs.toF, Rs.of, Rf.of, deref, getSl, putI, VE.stI, mayStore, binD, binI, endF, outS, ixD, at40, at41, at42, at43, bi_len, bi_int, bi_abs, cm_eq, cm_lt, cm_gt, lend, lend1, atsOf, giveBack, findArg, comb, whole, truD, xAnd, xOr, xNot, xCmp2, xIsi, tyD, cm_le, cm_ge, comb_none, isi_NoneType_int, isi_NoneType_bool, isi_NoneType_tuple, isi_NoneType_str, isi_NoneType_list, isi_NoneType_seq, isi_bool_int, isi_bool_bool, isi_bool_tuple, isi_bool_str, isi_bool_list, isi_bool_seq, isi_int_int, isi_int_bool, isi_int_tuple, isi_int_str, isi_int_list, isi_int_seq, isi_str_int, isi_str_bool, isi_str_tuple, isi_str_str, isi_str_list, isi_str_seq, isi_tuple_int, isi_tuple_bool, isi_tuple_tuple, isi_tuple_str, isi_tuple_list, isi_tuple_seq, isi_list_int, isi_list_bool, isi_list_tuple, isi_list_str, isi_list_list, isi_list_seq, isi_dict_int, isi_dict_bool, isi_dict_tuple, isi_dict_str, isi_dict_list, isi_dict_seq, sz0]), seq_next e1]
  simp [sCons, sSet, sRet, sNil, sIf, sSub, VE.tAnd, VE.tOr, VE.tNot, tCm, tE, xCmp, xIx, xBin, xBi, xOwn, xIte, xNeg, xTup, xLst, xCons, xNil, xACons, xANil, xVar, xC, Rs.bind, Rs.toF, Rs.of, Rf.of, deref, getSl, putI, VE.stI, mayStore, binD, binI, endF, outS, ixD, at40, at41, at42, at43, bi_len, bi_int, bi_abs, cm_eq, cm_lt, cm_gt, lend, lend1, atsOf, giveBack, findArg, comb, whole, truD, xAnd, xOr, xNot, xCmp2, xIsi, tyD, cm_le, cm_ge, comb_none, isi_NoneType_int, isi_NoneType_bool, isi_NoneType_tuple, isi_NoneType_str, isi_NoneType_list, isi_NoneType_seq, isi_bool_int, isi_bool_bool, isi_bool_tuple, isi_bool_str, isi_bool_list, isi_bool_seq, isi_int_int, isi_int_bool, isi_int_tuple, isi_int_str, isi_int_list, isi_int_seq, isi_str_int, isi_str_bool, isi_str_tuple, isi_str_str, isi_str_list, isi_str_seq, isi_tuple_int, isi_tuple_bool, isi_tuple_tuple, isi_tuple_str, isi_tuple_list, isi_tuple_seq, isi_list_int, isi_list_bool, isi_list_tuple, isi_list_str, isi_list_list, isi_list_seq, isi_dict_int, isi_dict_bool, isi_dict_tuple, isi_dict_str, isi_dict_list, isi_dict_seq, bi_tupL]
end LawP
end

section
set_option Elab.async false
set_option linter.all false
set_option maxRecDepth 100000
set_option maxHeartbeats 4000000
namespace LawP
open PySem PySem.Spec L2 VE

theorem xOwn_ok {C : List Sl → Cr} {ds : List D} {args : XA} {ρ ρ1 ρ2 : Ro} {bs : List Bv} {sls as : List Sl} {d : D} {b : Bool} (h1 : args ρ = .ok bs ρ1) (h2 : lend ρ1 bs = some sls) (h3 : C (sls ++ ds.map .fz) = .ret d b as) (h4 : giveBack bs as ρ1 = ρ2) : xOwn C ds args ρ = .ok (.va d b) ρ2 := by
  unfold xOwn
  rw [h1]
  simp only [Rs.bind]
  rw [h2]
  simp only [h3, h4]
structure SOk2 (ss : List Int) : Prop extends SOk ss where
  p : prod ss 1 ≤ 500
theorem prod_pos : ∀ (ss : List Int) (a : Int), 0 < a → (∀ x ∈ ss, 0 < x ∧ x ≤ 40) → 0 < prod ss a
  | [], a, h, _ => h
  | x :: ss, a, h, hx => prod_pos ss (a * x) (Int.mul_pos h (hx x List.mem_cons_self).1) fun y hy => hx y (List.mem_cons_of_mem _ hy)
def rngL (n : Nat) : List Int := (List.range n).map fun (i : Nat) => 0 + (i : Int)
theorem rng_IL (n : Nat) : rngD 0 n = IL (rngL n) := by
  show (List.range n).map (fun (k : Nat) => D.int (0 + (k : Int))) = ((List.range n).map fun (i : Nat) => 0 + (i : Int)).map D.int
  rw [List.map_map]
  rfl
theorem rngL_len (n : Nat) : (rngL n).length = n := by simp [rngL]
/-- all fillings -/
def fills (ss : List Int) : List D := (rngL (prod ss 1).toNat).map fun i => D.tup (IL (fil ss i))
def lfE (C : Str → List Sl → Cr) : XE := (xOwn (C "_law_filling") [] (xACons (xVar 0) (xACons (xVar 1) xANil)))
theorem lfills_loop (k : Nat) {ss : List Int} (ok : SOk ss) : ∀ (is : List Int) (acc : List D), acc.length + is.length ≤ 1000 →
    loopC [1] (agI 1) VE.tYes (lfE (Mk (k + 1)).call) (IL is) acc [.ow .par (.lst (IL ss)), .un] = .ok (acc ++ is.map fun i => D.tup (IL (fil ss i))) [.ow .par (.lst (IL ss)), .un]
  | [], acc, _ => by simp [loopC]
  | i :: is, acc, hl => by
    have hl' : acc.length + (is.length + 1) ≤ 1000 := hl
    have e := c_lfill k ok i
    have gs : acc.length < sizeLine := by rw [sizeLine_eq]; omega
    have ih := lfills_loop k ok is (acc ++ [D.tup (IL (fil ss i))]) (by rw [List.length_append, List.length_singleton]; omega)
    have ea : agI 1 (.int i) [.ow .par (.lst (IL ss)), .un] = some [.ow .par (.lst (IL ss)), .fz (.int i)] := rfl
    have ee : lfE (Mk (k + 1)).call [.ow .par (.lst (IL ss)), .fz (.int i)] = .ok (.va (.tup (IL (fil ss i))) false) [.ow .par (.lst (IL ss)), .fz (.int i)] := by
      exact xOwn_ok (bs := [.at 0, .va (.int i) false]) (sls := [.ow .par (.lst (IL ss)), .fz (.int i)]) rfl rfl e rfl
    show loopC [1] (agI 1) VE.tYes (lfE (Mk (k + 1)).call) (.int i :: IL is) acc _ = _
    rw [loopC, ea]
    simp only [VE.tYes, if_true]
    rw [ee]
    simp only [whole]
    rw [if_pos (decide_eq_true gs)]
    have ew : wipeR [1] [Sl.ow .par (.lst (IL ss)), .fz (.int i)] = [.ow .par (.lst (IL ss)), .un] := rfl
    rw [ew, ih]
    simp
theorem c_lfills (k : Nat) {ss : List Int} (ok : SOk2 ss) : (Mk (k + 2)).call "_law_fillings" [.ow .par (.lst (IL ss))] = .ret (.lst (fills ss)) true [.ow .par (.lst (IL ss))] := by
  rw [call_eq (k := k + 1) (e := e__law_fillings) rfl (mo__law_fillings (k + 1)) rfl rfl]
  have hp := ok.p
  have h0 := prod_pos ss 1 (by decide) ok.b
  have em : m__law_fillings (Mk (k + 1)).call = (sCons (sRet (xComp [1] (VE.iRng1 (xOwn ((Mk (k + 1)).call "_law_many") [] (xACons (xVar 0) xANil))) (agI 1) VE.tYes (lfE (Mk (k + 1)).call))) sNil) := rfl
  rw [em]
  have e1 := c_many k (s0 := .ow .par (.lst (IL ss))) (.inl rfl) ok.toSOk
  have ei := rng1_ok (a := xOwn ((Mk (k + 1)).call "_law_many") [] (xACons (xVar 0) xANil)) (ρ := [.ow .par (.lst (IL ss)), .un]) (ρ1 := [.ow .par (.lst (IL ss)), .un]) (N := prod ss 1) (xOwn_ok (bs := [.at 0]) rfl rfl e1 rfl) (small_of (by omega) (by omega))
  have e2 := lfills_loop k ok.toSOk (rngL (prod ss 1).toNat) [] (by rw [rngL_len]; simp; omega)
  rw [← rng_IL] at e2
  have ec : xComp [1] (VE.iRng1 (xOwn ((Mk (k + 1)).call "_law_many") [] (xACons (xVar 0) xANil))) (agI 1) VE.tYes (lfE (Mk (k + 1)).call) [.ow .par (.lst (IL ss)), .un] = .ok (.va (.lst (fills ss)) true) [.ow .par (.lst (IL ss)), .un] := by
    unfold xComp
    rw [ei]
    simp only [Rs.bind]
    rw [if_pos (by simp [lockAll, flatSl])]
    have ew : wipeR [1] (lockAll [] [Sl.ow .par (.lst (IL ss)), .un]) = [.ow .par (.lst (IL ss)), .un] := rfl
    rw [ew, e2]
    rfl
  show endF _ (sCons _ _ [.ow .par (.lst (IL ss)), .un]) = _
  have er : sRet (xComp [1] (VE.iRng1 (xOwn ((Mk (k + 1)).call "_law_many") [] (xACons (xVar 0) xANil))) (agI 1) VE.tYes (lfE (Mk (k + 1)).call)) [.ow .par (.lst (IL ss)), .un] = .ret (.va (.lst (fills ss)) true) [.ow .par (.lst (IL ss)), .un] := by
    unfold sRet
    rw [ec]
    rfl
  rw [seq_ret er]
  rfl
/-! the generator -/
def genB (C : Str → List Sl → Cr) : XG := (VE.gCons (gYield (xOwn (C "filling_at") [] (xACons (xVar 0) (xACons (xVar 1) xANil)))) VE.gNil)
theorem gen_loop (k : Nat) {s0 : Sl} {ss : List Int} (h : Sz s0 ss) (ok : SOk ss) : ∀ (is : List Int) (ys : List D) (s : Sl), Ms s → ys.length + is.length ≤ 1000 →
    ∃ s', loopG (agI 1) (genB (Mk (k + 1)).call) (IL is) ys [s0, s] = .next (ys ++ is.map fun i => D.tup (IL (fil ss i))) [s0, s']
  | [], ys, s, _, _ => ⟨s, by simp [loopG]⟩
  | i :: is, ys, s, ms, hl => by
    have hl' : ys.length + (is.length + 1) ≤ 1000 := hl
    have e := c_fill k h ok i
    have gs : ys.length < sizeLine := by rw [sizeLine_eq]; omega
    obtain ⟨s', ih⟩ := gen_loop k h ok is (ys ++ [D.tup (IL (fil ss i))]) (.fz (.int i)) rfl (by rw [List.length_append, List.length_singleton]; omega)
    refine ⟨s', ?_⟩
    have ea : agI 1 (.int i) [s0, s] = some [s0, .fz (.int i)] := by
      unfold agI VE.stI
      exact if_pos ms
    have eb : genB (Mk (k + 1)).call ys [s0, .fz (.int i)] = .next (ys ++ [D.tup (IL (fil ss i))]) [s0, .fz (.int i)] := by
      have ex : xOwn ((Mk (k + 1)).call "filling_at") [] (xACons (xVar 0) (xACons (xVar 1) xANil)) [s0, .fz (.int i)] = .ok (.va (.tup (IL (fil ss i))) false) [s0, .fz (.int i)] := by
        rcases h with rfl | rfl | rfl
        · exact xOwn_ok (bs := [.at 0, .va (.int i) false]) rfl rfl e rfl
        · exact xOwn_ok (bs := [.va (.lst (IL ss)) false, .va (.int i) false]) rfl rfl e rfl
        · exact xOwn_ok (bs := [.va (.tup (IL ss)) false, .va (.int i) false]) rfl rfl e rfl
      unfold genB VE.gCons gYield
      rw [ex]
      simp only [whole]
      rw [if_pos gs]
      rfl
    show (match agI 1 (.int i) [s0, s] with
      | none => Rg.stuck
      | some ρ1 => (match genB (Mk (k + 1)).call ys ρ1 with
        | .next ys2 ρ2 => loopG (agI 1) (genB (Mk (k + 1)).call) (IL is) ys2 ρ2
        | .cnt ys2 ρ2 => loopG (agI 1) (genB (Mk (k + 1)).call) (IL is) ys2 ρ2
        | .brk ys2 ρ2 => .next ys2 ρ2
        | .stuck => .stuck)) = _
    rw [ea]
    simp only [eb]
    rw [ih]
    simp
theorem c_gen (k : Nat) {d : D} {ss : List Int} (h : d = .lst (IL ss) ∨ d = .tup (IL ss)) (ok : SOk2 ss) : (Mk (k + 5)).gen "fillings_of" [d] = some (fills ss) := by
  have hz : Sz (.fz d) ss := by
    rcases h with rfl | rfl
    · exact .inr (.inl rfl)
    · exact .inr (.inr rfl)
  have hp := ok.p
  have h0 := prod_pos ss 1 (by decide) ok.b
  show callG (Mk (k + 1)) 60 e_fillings_of.fn [d] = _
  have e1 := c_count k hz ok.toSOk
  have ei := rng1_ok (a := xOwn ((Mk (k + 1)).call "count_fillings") [] (xACons (xVar 0) xANil)) (ρ := [.fz d, .un]) (ρ1 := [.fz d, .un]) (N := prod ss 1) (xOwn_ok (bs := [.va d false]) rfl rfl e1 rfl) (small_of (by omega) (by omega))
  obtain ⟨s', e2⟩ := gen_loop k hz ok.toSOk (rngL (prod ss 1).toNat) [] .un rfl (by rw [rngL_len]; simp; omega)
  rw [← rng_IL] at e2
  have em : genS (Mk (k + 1)) e_fillings_of.N (ev (Mk (k + 1)) e_fillings_of.N 60) 60 e_fillings_of.d.scope e_fillings_of.d.body [] [.fz d, .un] = .next (fills ss) [.fz d, s'] := by
    rw [mo_fillings_of (k + 1)]
    have em2 : m_fillings_of (Mk (k + 1)).call = VE.gCons (gFor (VE.iRng1 (xOwn ((Mk (k + 1)).call "count_fillings") [] (xACons (xVar 0) xANil))) (agI 1) (genB (Mk (k + 1)).call)) VE.gNil := rfl
    rw [em2]
    have ef : gFor (VE.iRng1 (xOwn ((Mk (k + 1)).call "count_fillings") [] (xACons (xVar 0) xANil))) (agI 1) (genB (Mk (k + 1)).call) [] [.fz d, .un] = .next (fills ss) [.fz d, s'] := by
      unfold gFor
      rw [ei]
      have e3 : loopG (agI 1) (genB (Mk (k + 1)).call) (rngD 0 (prod ss 1).toNat) [] [.fz d, .un] = _ := e2
      exact congrArg (Rg.map (unlockAll [])) e3
    unfold VE.gCons
    rw [ef]
    rfl
  unfold callG
  rw [if_pos (show [d].length = e_fillings_of.fn.np from rfl)]
  have em' : genS (Mk (k + 1)) e_fillings_of.fn.N (ev (Mk (k + 1)) e_fillings_of.fn.N 60) 60 e_fillings_of.fn.sc e_fillings_of.fn.body [] (([d] : List D).map .fz ++ List.replicate (e_fillings_of.fn.N.length - e_fillings_of.fn.np) .un) = .next (fills ss) [.fz d, s'] := em
  rw [em']
end LawP
end

section
set_option Elab.async false
set_option linter.all false
set_option maxRecDepth 100000
set_option maxHeartbeats 4000000
namespace LawP
open PySem PySem.Spec L2 VE

theorem c_tuples_int (k : Nat) (n : Int) : (Mk (k + 1)).call "_law_tuples" [.fz (.int n)] = .ret (.bl true) false [.fz (.int n)] := by
  rw [call_eq (e := e__law_tuples) rfl (mo__law_tuples k) rfl rfl]
  generalize (Mk k).call = C
  simp [m__law_tuples, e__law_tuples, sCons, sSet, sRet, sNil, sIf, sSub, VE.tAnd, VE.tOr, VE.tNot, tCm, tE, xCmp, xIx, xBin, xBi, xOwn, xIte, xNeg, xTup, xLst, xCons, xNil, xACons, xANil, xVar, xC, Rs.bind, Rs.toF, Rs.of, Rf.of, deref, getSl, putI, VE.stI, mayStore, binD, binI, endF, outS, ixD, at40, at41, at42, at43, bi_len, bi_int, bi_abs, cm_eq, cm_lt, cm_gt, lend, lend1, atsOf, giveBack, findArg, comb, whole, truD, xAnd, xOr, xNot, xCmp2, xIsi, tyD, cm_le, cm_ge, comb_none, isi_NoneType_int, isi_NoneType_bool, isi_NoneType_tuple, isi_NoneType_str, isi_NoneType_list, isi_NoneType_seq, isi_bool_int, isi_bool_bool, isi_bool_tuple, isi_bool_str, isi_bool_list, isi_bool_seq, isi_int_int, isi_int_bool, isi_int_tuple, isi_int_str, isi_int_list, isi_int_seq, isi_str_int, isi_str_bool, isi_str_tuple, isi_str_str, isi_str_list, isi_str_seq, isi_tuple_int, isi_tuple_bool, isi_tuple_tuple, isi_tuple_str, isi_tuple_list, isi_tuple_seq, isi_list_int, isi_list_bool, isi_list_tuple, isi_list_str, isi_list_list, isi_list_seq, isi_dict_int, isi_dict_bool, isi_dict_tuple, isi_dict_str, isi_dict_list, isi_dict_seq, is_non, isNonD]
def tupT (C : Str → List Sl → Cr) : XT := (VE.tNot (tE (xOwn (C "_law_tuples") [] (xACons (xVar 1) xANil))))
theorem tup_loop {C : Str → List Sl → Cr} {s0 : Sl} : ∀ ds : List D, (∀ d ∈ ds, C "_law_tuples" [.fz d] = .ret (.bl true) false [.fz d]) → loopC [1] (agI 1) (tupT C) (xC (.int 1)) ds [] [s0, .un] = .ok [] [s0, .un]
  | [], _ => rfl
  | d :: ds, h => by
    have e := h d List.mem_cons_self
    have ih := tup_loop (s0 := s0) ds fun x hx => h x (List.mem_cons_of_mem _ hx)
    have ea : agI 1 d [s0, .un] = some [s0, .fz d] := rfl
    have ex : xOwn (C "_law_tuples") [] (xACons (xVar 1) xANil) [s0, .fz d] = .ok (.va (.bl true) false) [s0, .fz d] := xOwn_ok (bs := [.va d false]) rfl rfl e (by simp [giveBack, findArg, comb_none, comb])
    have et : tupT C [s0, .fz d] = .ok false [s0, .fz d] := by
      unfold tupT VE.tNot tE
      rw [ex]
      rfl
    rw [loopC, ea]
    simp only [et, Bool.false_eq_true, if_false]
    exact ih
theorem c_tuples_tup (k : Nat) {ds : List D} (h : ∀ d ∈ ds, (Mk k).call "_law_tuples" [.fz d] = .ret (.bl true) false [.fz d]) : (Mk (k + 1)).call "_law_tuples" [.fz (.tup ds)] = .ret (.bl true) false [.fz (.tup ds)] := by
  rw [call_eq (e := e__law_tuples) rfl (mo__law_tuples k) rfl rfl]
  have em : m__law_tuples (Mk k).call = (sCons (sIf (tE (xIsi (xVar 0) ["tuple"])) (sCons (sRet (xNot (xComp [1] (VE.iGen (xVar 0)) (agI 1) (tupT (Mk k).call) (xC (.int 1))))) sNil) sNil) (sCons (sRet (xOr (xCmp .Is (xVar 0) (xC (.non))) (xOr (xIsi (xVar 0) ["str"]) (xAnd (xIsi (xVar 0) ["int"]) (xNot (xIsi (xVar 0) ["bool"])))))) sNil)) := rfl
  rw [em]
  generalize (Mk k).call = C at h
  have e1 := tup_loop (s0 := .fz (.tup ds)) ds h
  have ec : xComp [1] (VE.iGen (xVar 0)) (agI 1) (tupT C) (xC (.int 1)) [.fz (.tup ds), .un] = .ok (.va (.lst []) true) [.fz (.tup ds), .un] := by
    unfold xComp
    have ei : VE.iGen (xVar 0) [.fz (.tup ds), .un] = .ok (ds, []) [.fz (.tup ds), .un] := rfl
    rw [ei]
    simp only [Rs.bind]
    rw [if_pos (by simp [lockAll, flatSl])]
    have ew : wipeR [1] (lockAll [] [Sl.fz (.tup ds), .un]) = [.fz (.tup ds), .un] := rfl
    rw [ew, e1]
    rfl
  show endF _ (sCons _ _ [.fz (.tup ds), .un]) = _
  have er : sIf (tE (xIsi (xVar 0) ["tuple"])) (sCons (sRet (xNot (xComp [1] (VE.iGen (xVar 0)) (agI 1) (tupT C) (xC (.int 1))))) sNil) sNil [.fz (.tup ds), .un] = .ret (.va (.bl true) false) [.fz (.tup ds), .un] := by
    have et : tE (xIsi (xVar 0) ["tuple"]) [.fz (.tup ds), .un] = .ok true [.fz (.tup ds), .un] := by simp [sCons, sSet, sRet, sNil, sIf, sSub, VE.tAnd, VE.tOr, VE.tNot, tCm, tE, xCmp, xIx, xBin, xBi, xOwn, xIte, xNeg, xTup, xLst, xCons, xNil, xACons, xANil, xVar, xC, Rs.bind, Rs.toF, Rs.of, Rf.of, deref, getSl, putI, VE.stI, mayStore, binD, binI, endF, outS, ixD, at40, at41, at42, at43, bi_len, bi_int, bi_abs, cm_eq, cm_lt, cm_gt, lend, lend1, atsOf, giveBack, findArg, comb, whole, truD, xAnd, xOr, xNot, xCmp2, xIsi, tyD, cm_le, cm_ge, comb_none, isi_NoneType_int, isi_NoneType_bool, isi_NoneType_tuple, isi_NoneType_str, isi_NoneType_list, isi_NoneType_seq, isi_bool_int, isi_bool_bool, isi_bool_tuple, isi_bool_str, isi_bool_list, isi_bool_seq, isi_int_int, isi_int_bool, isi_int_tuple, isi_int_str, isi_int_list, isi_int_seq, isi_str_int, isi_str_bool, isi_str_tuple, isi_str_str, isi_str_list, isi_str_seq, isi_tuple_int, isi_tuple_bool, isi_tuple_tuple, isi_tuple_str, isi_tuple_list, isi_tuple_seq, isi_list_int, isi_list_bool, isi_list_tuple, isi_list_str, isi_list_list, isi_list_seq, isi_dict_int, isi_dict_bool, isi_dict_tuple, isi_dict_str, isi_dict_list, isi_dict_seq]
    unfold sIf
    rw [et]
    show sCons _ _ _ = _
    have e2 : sRet (xNot (xComp [1] (VE.iGen (xVar 0)) (agI 1) (tupT C) (xC (.int 1)))) [.fz (.tup ds), .un] = .ret (.va (.bl true) false) [.fz (.tup ds), .un] := by
      unfold sRet xNot
      rw [ec]
      rfl
    exact seq_ret e2
  rw [seq_ret er]
  rfl
/-! a row as a list or a tuple -/
def Sq (s : Sl) (xs : List D) : Prop := s = .ow .par (.lst xs) ∨ s = .fz (.lst xs) ∨ s = .fz (.tup xs)
theorem Sq.par {s : Sl} {xs : List D} (h : Sq s xs) : parOk s = true := by
  rcases h with rfl | rfl | rfl <;> rfl
theorem c_lists (k : Nat) {s1 : Sl} {xs : List D} (hq : Sq s1 xs) {cells : List Int} {pos big tot : Int} (h : HOk cells pos big tot) :
    ∃ (d : D) (f : Bool) (p b t : Int), (Mk (k + 3)).call "_law_lists" [.ow .par (HD cells pos big tot), s1] = .ret d f [.ow .par (HD cells p b t), s1] ∧ HOk cells p b t ∧ ((d = .lst xs ∧ f = true) ∨ (d = .tup xs ∧ f = false)) := by
  rw [call_eq (k := k + 2) (e := e__law_lists) rfl (mo__law_lists (k + 2)) rfl (by
    show (parOk (.ow .par _) && (parOk s1 && true)) = true
    rw [hq.par]
    rfl)]
  obtain ⟨r, p, b, t, e1, r0, r1, h1⟩ := c_take k h (m := 2) (by decide) (by decide)
  generalize (Mk (k + 2)).call = C at e1
  by_cases z : r = 0
  · subst z
    refine ⟨.tup xs, false, p, b, t, ?_, h1, .inr ⟨rfl, rfl⟩⟩
    rcases hq with rfl | rfl | rfl <;> simp [m__law_lists, e__law_lists, sCons, sSet, sRet, sNil, sIf, sSub, VE.tAnd, VE.tOr, VE.tNot, tCm, tE, xCmp, xIx, xBin, xBi, xOwn, xIte, xNeg, xTup, xLst, xCons, xNil, xACons, xANil, xVar, xC, Rs.bind, Rs.toF, Rs.of, Rf.of, deref, getSl, putI, VE.stI, mayStore, binD, binI, endF, outS, ixD, at40, at41, at42, at43, bi_len, bi_int, bi_abs, cm_eq, cm_lt, cm_gt, lend, lend1, atsOf, giveBack, findArg, comb, whole, truD, xAnd, xOr, xNot, xCmp2, xIsi, tyD, cm_le, cm_ge, comb_none, isi_NoneType_int, isi_NoneType_bool, isi_NoneType_tuple, isi_NoneType_str, isi_NoneType_list, isi_NoneType_seq, isi_bool_int, isi_bool_bool, isi_bool_tuple, isi_bool_str, isi_bool_list, isi_bool_seq, isi_int_int, isi_int_bool, isi_int_tuple, isi_int_str, isi_int_list, isi_int_seq, isi_str_int, isi_str_bool, isi_str_tuple, isi_str_str, isi_str_list, isi_str_seq, isi_tuple_int, isi_tuple_bool, isi_tuple_tuple, isi_tuple_str, isi_tuple_list, isi_tuple_seq, isi_list_int, isi_list_bool, isi_list_tuple, isi_list_str, isi_list_list, isi_list_seq, isi_dict_int, isi_dict_bool, isi_dict_tuple, isi_dict_str, isi_dict_list, isi_dict_seq, e1, bi_tupL, bi_tupT]
  · refine ⟨.lst xs, true, p, b, t, ?_, h1, .inl ⟨rfl, rfl⟩⟩
    rcases hq with rfl | rfl | rfl <;> simp [m__law_lists, e__law_lists, sCons, sSet, sRet, sNil, sIf, sSub, VE.tAnd, VE.tOr, VE.tNot, tCm, tE, xCmp, xIx, xBin, xBi, xOwn, xIte, xNeg, xTup, xLst, xCons, xNil, xACons, xANil, xVar, xC, Rs.bind, Rs.toF, Rs.of, Rf.of, deref, getSl, putI, VE.stI, mayStore, binD, binI, endF, outS, ixD, at40, at41, at42, at43, bi_len, bi_int, bi_abs, cm_eq, cm_lt, cm_gt, lend, lend1, atsOf, giveBack, findArg, comb, whole, truD, xAnd, xOr, xNot, xCmp2, xIsi, tyD, cm_le, cm_ge, comb_none, isi_NoneType_int, isi_NoneType_bool, isi_NoneType_tuple, isi_NoneType_str, isi_NoneType_list, isi_NoneType_seq, isi_bool_int, isi_bool_bool, isi_bool_tuple, isi_bool_str, isi_bool_list, isi_bool_seq, isi_int_int, isi_int_bool, isi_int_tuple, isi_int_str, isi_int_list, isi_int_seq, isi_str_int, isi_str_bool, isi_str_tuple, isi_str_str, isi_str_list, isi_str_seq, isi_tuple_int, isi_tuple_bool, isi_tuple_tuple, isi_tuple_str, isi_tuple_list, isi_tuple_seq, isi_list_int, isi_list_bool, isi_list_tuple, isi_list_str, isi_list_list, isi_list_seq, isi_dict_int, isi_dict_bool, isi_dict_tuple, isi_dict_str, isi_dict_list, isi_dict_seq, e1, z, bi_listL, bi_listT]
/-- a thing that is told back -/
def good : D → Prop
  | .tup xs => cmpD .Eq (.lst xs) (.lst xs) = some true
  | .lst xs => cmpD .Eq (.lst xs) (.lst xs) = some true
  | .scr _ => False
  | .obj _ _ => False
  | d => cmpD .Eq d d = some true
theorem c_like (k : Nat) {d : D} (h : good d) : (Mk (k + 1)).call "_law_like" [.fz d, .fz d] = .ret (.bl true) false [.fz d, .fz d] := by
  rw [call_eq (e := e__law_like) rfl (mo__law_like k) rfl rfl]
  generalize (Mk k).call = C
  cases d with
  | scr _ => exact h.elim
  | obj _ _ => exact h.elim
  | tup xs =>
    have h' : cmpD .Eq (.lst xs) (.lst xs) = some true := h
    simp [m__law_like, e__law_like, sCons, sSet, sRet, sNil, sIf, sSub, VE.tAnd, VE.tOr, VE.tNot, tCm, tE, xCmp, xIx, xBin, xBi, xOwn, xIte, xNeg, xTup, xLst, xCons, xNil, xACons, xANil, xVar, xC, Rs.bind, Rs.toF, Rs.of, Rf.of, deref, getSl, putI, VE.stI, mayStore, binD, binI, endF, outS, ixD, at40, at41, at42, at43, bi_len, bi_int, bi_abs, cm_eq, cm_lt, cm_gt, lend, lend1, atsOf, giveBack, findArg, comb, whole, truD, xAnd, xOr, xNot, xCmp2, xIsi, tyD, cm_le, cm_ge, comb_none, isi_NoneType_int, isi_NoneType_bool, isi_NoneType_tuple, isi_NoneType_str, isi_NoneType_list, isi_NoneType_seq, isi_bool_int, isi_bool_bool, isi_bool_tuple, isi_bool_str, isi_bool_list, isi_bool_seq, isi_int_int, isi_int_bool, isi_int_tuple, isi_int_str, isi_int_list, isi_int_seq, isi_str_int, isi_str_bool, isi_str_tuple, isi_str_str, isi_str_list, isi_str_seq, isi_tuple_int, isi_tuple_bool, isi_tuple_tuple, isi_tuple_str, isi_tuple_list, isi_tuple_seq, isi_list_int, isi_list_bool, isi_list_tuple, isi_list_str, isi_list_list, isi_list_seq, isi_dict_int, isi_dict_bool, isi_dict_tuple, isi_dict_str, isi_dict_list, isi_dict_seq, bi_listT, h']
  | lst xs =>
    have h' : cmpD .Eq (.lst xs) (.lst xs) = some true := h
    simp [m__law_like, e__law_like, sCons, sSet, sRet, sNil, sIf, sSub, VE.tAnd, VE.tOr, VE.tNot, tCm, tE, xCmp, xIx, xBin, xBi, xOwn, xIte, xNeg, xTup, xLst, xCons, xNil, xACons, xANil, xVar, xC, Rs.bind, Rs.toF, Rs.of, Rf.of, deref, getSl, putI, VE.stI, mayStore, binD, binI, endF, outS, ixD, at40, at41, at42, at43, bi_len, bi_int, bi_abs, cm_eq, cm_lt, cm_gt, lend, lend1, atsOf, giveBack, findArg, comb, whole, truD, xAnd, xOr, xNot, xCmp2, xIsi, tyD, cm_le, cm_ge, comb_none, isi_NoneType_int, isi_NoneType_bool, isi_NoneType_tuple, isi_NoneType_str, isi_NoneType_list, isi_NoneType_seq, isi_bool_int, isi_bool_bool, isi_bool_tuple, isi_bool_str, isi_bool_list, isi_bool_seq, isi_int_int, isi_int_bool, isi_int_tuple, isi_int_str, isi_int_list, isi_int_seq, isi_str_int, isi_str_bool, isi_str_tuple, isi_str_str, isi_str_list, isi_str_seq, isi_tuple_int, isi_tuple_bool, isi_tuple_tuple, isi_tuple_str, isi_tuple_list, isi_tuple_seq, isi_list_int, isi_list_bool, isi_list_tuple, isi_list_str, isi_list_list, isi_list_seq, isi_dict_int, isi_dict_bool, isi_dict_tuple, isi_dict_str, isi_dict_list, isi_dict_seq, bi_listL, h']
  | int i =>
    have h' : cmpD .Eq (.int i) (.int i) = some true := h
    simp [m__law_like, e__law_like, sCons, sSet, sRet, sNil, sIf, sSub, VE.tAnd, VE.tOr, VE.tNot, tCm, tE, xCmp, xIx, xBin, xBi, xOwn, xIte, xNeg, xTup, xLst, xCons, xNil, xACons, xANil, xVar, xC, Rs.bind, Rs.toF, Rs.of, Rf.of, deref, getSl, putI, VE.stI, mayStore, binD, binI, endF, outS, ixD, at40, at41, at42, at43, bi_len, bi_int, bi_abs, cm_eq, cm_lt, cm_gt, lend, lend1, atsOf, giveBack, findArg, comb, whole, truD, xAnd, xOr, xNot, xCmp2, xIsi, tyD, cm_le, cm_ge, comb_none, isi_NoneType_int, isi_NoneType_bool, isi_NoneType_tuple, isi_NoneType_str, isi_NoneType_list, isi_NoneType_seq, isi_bool_int, isi_bool_bool, isi_bool_tuple, isi_bool_str, isi_bool_list, isi_bool_seq, isi_int_int, isi_int_bool, isi_int_tuple, isi_int_str, isi_int_list, isi_int_seq, isi_str_int, isi_str_bool, isi_str_tuple, isi_str_str, isi_str_list, isi_str_seq, isi_tuple_int, isi_tuple_bool, isi_tuple_tuple, isi_tuple_str, isi_tuple_list, isi_tuple_seq, isi_list_int, isi_list_bool, isi_list_tuple, isi_list_str, isi_list_list, isi_list_seq, isi_dict_int, isi_dict_bool, isi_dict_tuple, isi_dict_str, isi_dict_list, isi_dict_seq, cm_bb]
  | non =>
    have h' : cmpD .Eq .non .non = some true := h
    simp [m__law_like, e__law_like, sCons, sSet, sRet, sNil, sIf, sSub, VE.tAnd, VE.tOr, VE.tNot, tCm, tE, xCmp, xIx, xBin, xBi, xOwn, xIte, xNeg, xTup, xLst, xCons, xNil, xACons, xANil, xVar, xC, Rs.bind, Rs.toF, Rs.of, Rf.of, deref, getSl, putI, VE.stI, mayStore, binD, binI, endF, outS, ixD, at40, at41, at42, at43, bi_len, bi_int, bi_abs, cm_eq, cm_lt, cm_gt, lend, lend1, atsOf, giveBack, findArg, comb, whole, truD, xAnd, xOr, xNot, xCmp2, xIsi, tyD, cm_le, cm_ge, comb_none, isi_NoneType_int, isi_NoneType_bool, isi_NoneType_tuple, isi_NoneType_str, isi_NoneType_list, isi_NoneType_seq, isi_bool_int, isi_bool_bool, isi_bool_tuple, isi_bool_str, isi_bool_list, isi_bool_seq, isi_int_int, isi_int_bool, isi_int_tuple, isi_int_str, isi_int_list, isi_int_seq, isi_str_int, isi_str_bool, isi_str_tuple, isi_str_str, isi_str_list, isi_str_seq, isi_tuple_int, isi_tuple_bool, isi_tuple_tuple, isi_tuple_str, isi_tuple_list, isi_tuple_seq, isi_list_int, isi_list_bool, isi_list_tuple, isi_list_str, isi_list_list, isi_list_seq, isi_dict_int, isi_dict_bool, isi_dict_tuple, isi_dict_str, isi_dict_list, isi_dict_seq, h', cm_bb]
  | bl b =>
    have h' : cmpD .Eq (.bl b) (.bl b) = some true := h
    simp [m__law_like, e__law_like, sCons, sSet, sRet, sNil, sIf, sSub, VE.tAnd, VE.tOr, VE.tNot, tCm, tE, xCmp, xIx, xBin, xBi, xOwn, xIte, xNeg, xTup, xLst, xCons, xNil, xACons, xANil, xVar, xC, Rs.bind, Rs.toF, Rs.of, Rf.of, deref, getSl, putI, VE.stI, mayStore, binD, binI, endF, outS, ixD, at40, at41, at42, at43, bi_len, bi_int, bi_abs, cm_eq, cm_lt, cm_gt, lend, lend1, atsOf, giveBack, findArg, comb, whole, truD, xAnd, xOr, xNot, xCmp2, xIsi, tyD, cm_le, cm_ge, comb_none, isi_NoneType_int, isi_NoneType_bool, isi_NoneType_tuple, isi_NoneType_str, isi_NoneType_list, isi_NoneType_seq, isi_bool_int, isi_bool_bool, isi_bool_tuple, isi_bool_str, isi_bool_list, isi_bool_seq, isi_int_int, isi_int_bool, isi_int_tuple, isi_int_str, isi_int_list, isi_int_seq, isi_str_int, isi_str_bool, isi_str_tuple, isi_str_str, isi_str_list, isi_str_seq, isi_tuple_int, isi_tuple_bool, isi_tuple_tuple, isi_tuple_str, isi_tuple_list, isi_tuple_seq, isi_list_int, isi_list_bool, isi_list_tuple, isi_list_str, isi_list_list, isi_list_seq, isi_dict_int, isi_dict_bool, isi_dict_tuple, isi_dict_str, isi_dict_list, isi_dict_seq, cm_bb]
  | str b =>
    have h' : cmpD .Eq (.str b) (.str b) = some true := h
    simp [m__law_like, e__law_like, sCons, sSet, sRet, sNil, sIf, sSub, VE.tAnd, VE.tOr, VE.tNot, tCm, tE, xCmp, xIx, xBin, xBi, xOwn, xIte, xNeg, xTup, xLst, xCons, xNil, xACons, xANil, xVar, xC, Rs.bind, Rs.toF, Rs.of, Rf.of, deref, getSl, putI, VE.stI, mayStore, binD, binI, endF, outS, ixD, at40, at41, at42, at43, bi_len, bi_int, bi_abs, cm_eq, cm_lt, cm_gt, lend, lend1, atsOf, giveBack, findArg, comb, whole, truD, xAnd, xOr, xNot, xCmp2, xIsi, tyD, cm_le, cm_ge, comb_none, isi_NoneType_int, isi_NoneType_bool, isi_NoneType_tuple, isi_NoneType_str, isi_NoneType_list, isi_NoneType_seq, isi_bool_int, isi_bool_bool, isi_bool_tuple, isi_bool_str, isi_bool_list, isi_bool_seq, isi_int_int, isi_int_bool, isi_int_tuple, isi_int_str, isi_int_list, isi_int_seq, isi_str_int, isi_str_bool, isi_str_tuple, isi_str_str, isi_str_list, isi_str_seq, isi_tuple_int, isi_tuple_bool, isi_tuple_tuple, isi_tuple_str, isi_tuple_list, isi_tuple_seq, isi_list_int, isi_list_bool, isi_list_tuple, isi_list_str, isi_list_list, isi_list_seq, isi_dict_int, isi_dict_bool, isi_dict_tuple, isi_dict_str, isi_dict_list, isi_dict_seq, h', cm_bb]
  | dic i j =>
    have h' : cmpD .Eq (.dic i j) (.dic i j) = some true := h
    simp [m__law_like, e__law_like, sCons, sSet, sRet, sNil, sIf, sSub, VE.tAnd, VE.tOr, VE.tNot, tCm, tE, xCmp, xIx, xBin, xBi, xOwn, xIte, xNeg, xTup, xLst, xCons, xNil, xACons, xANil, xVar, xC, Rs.bind, Rs.toF, Rs.of, Rf.of, deref, getSl, putI, VE.stI, mayStore, binD, binI, endF, outS, ixD, at40, at41, at42, at43, bi_len, bi_int, bi_abs, cm_eq, cm_lt, cm_gt, lend, lend1, atsOf, giveBack, findArg, comb, whole, truD, xAnd, xOr, xNot, xCmp2, xIsi, tyD, cm_le, cm_ge, comb_none, isi_NoneType_int, isi_NoneType_bool, isi_NoneType_tuple, isi_NoneType_str, isi_NoneType_list, isi_NoneType_seq, isi_bool_int, isi_bool_bool, isi_bool_tuple, isi_bool_str, isi_bool_list, isi_bool_seq, isi_int_int, isi_int_bool, isi_int_tuple, isi_int_str, isi_int_list, isi_int_seq, isi_str_int, isi_str_bool, isi_str_tuple, isi_str_str, isi_str_list, isi_str_seq, isi_tuple_int, isi_tuple_bool, isi_tuple_tuple, isi_tuple_str, isi_tuple_list, isi_tuple_seq, isi_list_int, isi_list_bool, isi_list_tuple, isi_list_str, isi_list_list, isi_list_seq, isi_dict_int, isi_dict_bool, isi_dict_tuple, isi_dict_str, isi_dict_list, isi_dict_seq, h', cm_bb]
end LawP
end

section
set_option Elab.async false
set_option linter.all false
set_option maxRecDepth 100000
set_option maxHeartbeats 4000000
namespace LawP
open PySem PySem.Spec L2 VE

/-! ### rows against sizes -/
def fwL : List Int → List D → Nat → Option Nat
  | [], _, _ => none
  | _ :: _, [], i => some i
  | s :: ss, e :: es, i => if wh e 0 (s - 1) then fwL ss es (i + 1) else some i
def firstW (ss : List Int) (es : List D) : D := match fwL ss es 0 with
  | some j => .int j
  | none => if ss.length < es.length then .int ss.length else .non
def enF : Nat → List Int → List D
  | _, [] => []
  | i, s :: ss => .tup [.int i, .int s] :: enF (i + 1) ss
theorem enum_go : ∀ (ss : List Int) (i : Nat), ((List.range' i ss.length).zip (IL ss)).map (fun p => D.tup [.int (p.1 : Int), p.2]) = enF i ss
  | [], _ => rfl
  | s :: ss, i => by
    show ((List.range' i (ss.length + 1)).zip (D.int s :: IL ss)).map _ = _
    rw [List.range'_succ, List.zip_cons_cons, List.map_cons, enum_go ss (i + 1)]
    rfl
theorem enum_eq (ss : List Int) : enumD (IL ss) = enF 0 ss := by
  unfold enumD
  rw [List.range_eq_range', List.length_map]
  exact enum_go ss 0
def IsRow (r : D) (es : List D) : Prop := r = .tup es ∨ r = .lst es
def fwB (C : Str → List Sl → Cr) : XS := (sCons (sIf (tCm (xCmp .GtE (xVar 3) (xBi "len" (xACons (xVar 1) xANil)))) (sCons (sRet (xVar 3)) sNil) sNil) (sCons (sIf (VE.tAnd (tE (xVar 2)) (tCm (xCmp .Is (xIx (xVar 1) (xVar 3)) (xC (.non))))) (sCons sCnt sNil) sNil) (sCons (sIf (VE.tNot (tE (xOwn (C "is_whole") [] (xACons (xIx (xVar 1) (xVar 3)) (xACons (xC (.int (0))) (xACons (xBin .Sub (xVar 4) (xC (.int (1)))) xANil)))))) (sCons (sRet (xVar 3)) sNil) sNil) sNil)))
theorem agT2 {s0 s1 s2 s3 s4 : Sl} {a b : D} (m3 : Ms s3) (m4 : Ms s4) : agT [3, 4] (.tup [a, b]) [s0, s1, s2, s3, s4] = some [s0, s1, s2, .fz a, .fz b] := by
  have h1 : VE.stI 3 (.fz a) [s0, s1, s2, s3, s4] = some [s0, s1, s2, .fz a, s4] := if_pos m3
  have h2 : VE.stI 4 (.fz b) [s0, s1, s2, .fz a, s4] = some [s0, s1, s2, .fz a, .fz b] := if_pos m4
  show (VE.stI 3 (.fz a) [s0, s1, s2, s3, s4]).bind (fun ρ1 => (VE.stI 4 (.fz b) ρ1).bind fun ρ2 => agL [] [] ρ2) = _
  rw [h1]
  show (VE.stI 4 (.fz b) [s0, s1, s2, .fz a, s4]).bind (fun ρ2 => agL [] [] ρ2) = _
  rw [h2]
  rfl
/-- no list of the caller's is lent -/
def noAt : List Bv → Bool
  | [] => true
  | .at _ :: _ => false
  | .va _ _ :: r => noAt r
theorem findArg_no {p : Nat} : ∀ {bs : List Bv} {as : List Sl}, noAt bs = true → findArg p bs as = none
  | [], as, _ => by cases as <;> rfl
  | .at _ :: _, _, h => by cases h
  | .va _ _ :: bs, [], _ => rfl
  | .va _ _ :: bs, a :: as, h => findArg_no (bs := bs) (as := as) h
theorem give_no {bs : List Bv} {as : List Sl} {ρ : Ro} (h : noAt bs = true) : giveBack bs as ρ = ρ := by
  unfold giveBack
  have e : (fun (p : Nat) (s : Sl) => comb s (findArg p bs as)) = fun _ s => s := by
    funext p s
    rw [findArg_no h, comb_none]
  rw [e]
  apply List.ext_getElem?
  intro i
  rw [List.getElem?_mapIdx]
  cases ρ[i]? <;> rfl
theorem row_len {r : D} {es : List D} (h : IsRow r es) : biD (Str.ofString "len") [r] = some (.int es.length, false) := by
  rcases h with rfl | rfl <;> rfl
theorem row_ix {r : D} {pre es : List D} {e : D} (h : IsRow r (pre ++ e :: es)) : ixD r (.int (pre.length : Int)) = some e := by
  rcases h with rfl | rfl
  · exact atI_mid _ _ _ _ rfl
  · exact atI_mid _ _ _ _ rfl
theorem fw_loop {C : Str → List Sl → Cr} (hC : ∀ (d : D) (h : Int), kd d = true → C "is_whole" [.fz d, .fz (.int 0), .fz (.int h)] = .ret (.bl (wh d 0 h)) false [.fz d, .fz (.int 0), .fz (.int h)]) {s0 : Sl} {r : D} {all : List D} (hr : IsRow r all) (hk : ∀ e ∈ all, kd e = true) :
    ∀ (ss : List Int) (es pre : List D) (s3 s4 : Sl), all = pre ++ es → Ms s3 → Ms s4 →
    ∃ s3' s4', loopF (agT [3, 4]) (fwB C) (enF pre.length ss) [s0, .fz r, .fz (.bl false), s3, s4] = match fwL ss es pre.length with
      | none => .next [s0, .fz r, .fz (.bl false), s3', s4']
      | some j => .ret (.va (.int j) false) [s0, .fz r, .fz (.bl false), s3', s4']
  | [], es, pre, s3, s4, _, _, _ => ⟨s3, s4, by simp [enF, loopF, fwL]⟩
  | s :: ss, [], pre, s3, s4, ha, m3, m4 => by
    refine ⟨.fz (.int pre.length), .fz (.int s), ?_⟩
    have ea := agT2 (s0 := s0) (s1 := .fz r) (s2 := .fz (.bl false)) (a := .int (pre.length : Int)) (b := .int s) m3 m4
    have hl := row_len hr
    have hl2 : all.length = pre.length := by rw [ha]; simp
    rw [hl2] at hl
    have eb : fwB C [s0, .fz r, .fz (.bl false), .fz (.int pre.length), .fz (.int s)] = .ret (.va (.int pre.length) false) [s0, .fz r, .fz (.bl false), .fz (.int pre.length), .fz (.int s)] := by
      simp [fwB, sCons, sSet, sRet, sNil, sIf, sSub, VE.tAnd, VE.tOr, VE.tNot, tCm, tE, xCmp, xIx, xBin, xBi, xOwn, xIte, xNeg, xTup, xLst, xCons, xNil, xACons, xANil, xVar, xC, Rs.bind, Rs.toF, Rs.of, Rf.of, deref, getSl, putI, VE.stI, mayStore, binD, binI, endF, outS, ixD, at40, at41, at42, at43, bi_len, bi_int, bi_abs, cm_eq, cm_lt, cm_gt, lend, lend1, atsOf, giveBack, findArg, comb, whole, truD, xAnd, xOr, xNot, xCmp2, xIsi, tyD, cm_le, cm_ge, comb_none, isi_NoneType_int, isi_NoneType_bool, isi_NoneType_tuple, isi_NoneType_str, isi_NoneType_list, isi_NoneType_seq, isi_bool_int, isi_bool_bool, isi_bool_tuple, isi_bool_str, isi_bool_list, isi_bool_seq, isi_int_int, isi_int_bool, isi_int_tuple, isi_int_str, isi_int_list, isi_int_seq, isi_str_int, isi_str_bool, isi_str_tuple, isi_str_str, isi_str_list, isi_str_seq, isi_tuple_int, isi_tuple_bool, isi_tuple_tuple, isi_tuple_str, isi_tuple_list, isi_tuple_seq, isi_list_int, isi_list_bool, isi_list_tuple, isi_list_str, isi_list_list, isi_list_seq, isi_dict_int, isi_dict_bool, isi_dict_tuple, isi_dict_str, isi_dict_list, isi_dict_seq, hl]
    show (match agT [3, 4] (.tup [.int pre.length, .int s]) [s0, .fz r, .fz (.bl false), s3, s4] with
      | none => Rf.stuck
      | some ρ1 => (match fwB C ρ1 with
        | .next ρ2 => loopF (agT [3, 4]) (fwB C) (enF (pre.length + 1) ss) ρ2
        | .cnt ρ2 => loopF (agT [3, 4]) (fwB C) (enF (pre.length + 1) ss) ρ2
        | .brk ρ2 => .next ρ2
        | r => r)) = _
    rw [ea]
    simp only [eb]
    rfl
  | s :: ss, e :: es, pre, s3, s4, ha, m3, m4 => by
    have ea := agT2 (s0 := s0) (s1 := .fz r) (s2 := .fz (.bl false)) (a := .int (pre.length : Int)) (b := .int s) m3 m4
    have hl := row_len hr
    have hlt : ¬ ((all.length : Int) ≤ pre.length) := by rw [ha]; simp; omega
    have hix : ixD r (.int (pre.length : Int)) = some e := row_ix (by rw [← ha]; exact hr)
    have hw := hC e (s - 1) (hk e (by rw [ha]; simp))
    have ha2 : all = (pre ++ [e]) ++ es := by rw [ha]; simp
    obtain ⟨s3', s4', ih⟩ := fw_loop hC (s0 := s0) hr hk ss es (pre ++ [e]) (.fz (.int pre.length)) (.fz (.int s)) ha2 rfl rfl
    have hpl : (pre ++ [e]).length = pre.length + 1 := by simp
    rw [hpl] at ih
    have step : loopF (agT [3, 4]) (fwB C) (enF pre.length (s :: ss)) [s0, .fz r, .fz (.bl false), s3, s4] = (match fwB C [s0, .fz r, .fz (.bl false), .fz (.int pre.length), .fz (.int s)] with
        | .next ρ2 => loopF (agT [3, 4]) (fwB C) (enF (pre.length + 1) ss) ρ2
        | .cnt ρ2 => loopF (agT [3, 4]) (fwB C) (enF (pre.length + 1) ss) ρ2
        | .brk ρ2 => .next ρ2
        | r => r) := by
      show (match agT [3, 4] (.tup [.int pre.length, .int s]) [s0, .fz r, .fz (.bl false), s3, s4] with
        | none => Rf.stuck
        | some ρ1 => _) = _
      rw [ea]
      all_goals rfl
    rw [step]
    by_cases h : wh e 0 (s - 1) = true
    · have eb : fwB C [s0, .fz r, .fz (.bl false), .fz (.int pre.length), .fz (.int s)] = .next [s0, .fz r, .fz (.bl false), .fz (.int pre.length), .fz (.int s)] := by
        rw [h] at hw
        have ix2 := hix
        simp only [ixD] at ix2
        unfold fwB
        rw [seq_next (ρ1 := [s0, .fz r, .fz (.bl false), .fz (.int pre.length), .fz (.int s)]) (by simp [sCons, sSet, sRet, sNil, sIf, sSub, VE.tAnd, VE.tOr, VE.tNot, tCm, tE, xCmp, xIx, xBin, xBi, xOwn, xIte, xNeg, xTup, xLst, xCons, xNil, xACons, xANil, xVar, xC, Rs.bind, Rs.toF, Rs.of, Rf.of, deref, getSl, putI, VE.stI, mayStore, binD, binI, endF, outS, ixD, at40, at41, at42, at43, bi_len, bi_int, bi_abs, cm_eq, cm_lt, cm_gt, lend, lend1, atsOf, giveBack, findArg, comb, whole, truD, xAnd, xOr, xNot, xCmp2, xIsi, tyD, cm_le, cm_ge, comb_none, isi_NoneType_int, isi_NoneType_bool, isi_NoneType_tuple, isi_NoneType_str, isi_NoneType_list, isi_NoneType_seq, isi_bool_int, isi_bool_bool, isi_bool_tuple, isi_bool_str, isi_bool_list, isi_bool_seq, isi_int_int, isi_int_bool, isi_int_tuple, isi_int_str, isi_int_list, isi_int_seq, isi_str_int, isi_str_bool, isi_str_tuple, isi_str_str, isi_str_list, isi_str_seq, isi_tuple_int, isi_tuple_bool, isi_tuple_tuple, isi_tuple_str, isi_tuple_list, isi_tuple_seq, isi_list_int, isi_list_bool, isi_list_tuple, isi_list_str, isi_list_list, isi_list_seq, isi_dict_int, isi_dict_bool, isi_dict_tuple, isi_dict_str, isi_dict_list, isi_dict_seq, hl, hlt])]
        rw [seq_next (ρ1 := [s0, .fz r, .fz (.bl false), .fz (.int pre.length), .fz (.int s)]) (by simp [sCons, sSet, sRet, sNil, sIf, sSub, VE.tAnd, VE.tOr, VE.tNot, tCm, tE, xCmp, xIx, xBin, xBi, xOwn, xIte, xNeg, xTup, xLst, xCons, xNil, xACons, xANil, xVar, xC, Rs.bind, Rs.toF, Rs.of, Rf.of, deref, getSl, putI, VE.stI, mayStore, binD, binI, endF, outS, ixD, at40, at41, at42, at43, bi_len, bi_int, bi_abs, cm_eq, cm_lt, cm_gt, lend, lend1, atsOf, giveBack, findArg, comb, whole, truD, xAnd, xOr, xNot, xCmp2, xIsi, tyD, cm_le, cm_ge, comb_none, isi_NoneType_int, isi_NoneType_bool, isi_NoneType_tuple, isi_NoneType_str, isi_NoneType_list, isi_NoneType_seq, isi_bool_int, isi_bool_bool, isi_bool_tuple, isi_bool_str, isi_bool_list, isi_bool_seq, isi_int_int, isi_int_bool, isi_int_tuple, isi_int_str, isi_int_list, isi_int_seq, isi_str_int, isi_str_bool, isi_str_tuple, isi_str_str, isi_str_list, isi_str_seq, isi_tuple_int, isi_tuple_bool, isi_tuple_tuple, isi_tuple_str, isi_tuple_list, isi_tuple_seq, isi_list_int, isi_list_bool, isi_list_tuple, isi_list_str, isi_list_list, isi_list_seq, isi_dict_int, isi_dict_bool, isi_dict_tuple, isi_dict_str, isi_dict_list, isi_dict_seq])]
        have ei : xIx (xVar 1) (xVar 3) [s0, .fz r, .fz (.bl false), .fz (.int pre.length), .fz (.int s)] = .ok (.va e false) [s0, .fz r, .fz (.bl false), .fz (.int pre.length), .fz (.int s)] := by
          simp [xIx, xVar, Rs.bind, Rs.of, deref, hix]
        have eo : xOwn (C "is_whole") [] (xACons (xIx (xVar 1) (xVar 3)) (xACons (xC (.int (0))) (xACons (xBin .Sub (xVar 4) (xC (.int (1)))) xANil))) [s0, .fz r, .fz (.bl false), .fz (.int pre.length), .fz (.int s)] = .ok (.va (.bl true) false) [s0, .fz r, .fz (.bl false), .fz (.int pre.length), .fz (.int s)] := by
          refine xOwn_ok (bs := [.va e false, .va (.int 0) false, .va (.int (s - 1)) false]) ?_ rfl hw (give_no rfl)
          simp only [xACons, ei]
          simp [sCons, sSet, sRet, sNil, sIf, sSub, VE.tAnd, VE.tOr, VE.tNot, tCm, tE, xCmp, xIx, xBin, xBi, xOwn, xIte, xNeg, xTup, xLst, xCons, xNil, xACons, xANil, xVar, xC, Rs.bind, Rs.toF, Rs.of, Rf.of, deref, getSl, putI, VE.stI, mayStore, binD, binI, endF, outS, ixD, at40, at41, at42, at43, bi_len, bi_int, bi_abs, cm_eq, cm_lt, cm_gt, lend, lend1, atsOf, giveBack, findArg, comb, whole, truD, xAnd, xOr, xNot, xCmp2, xIsi, tyD, cm_le, cm_ge, comb_none, isi_NoneType_int, isi_NoneType_bool, isi_NoneType_tuple, isi_NoneType_str, isi_NoneType_list, isi_NoneType_seq, isi_bool_int, isi_bool_bool, isi_bool_tuple, isi_bool_str, isi_bool_list, isi_bool_seq, isi_int_int, isi_int_bool, isi_int_tuple, isi_int_str, isi_int_list, isi_int_seq, isi_str_int, isi_str_bool, isi_str_tuple, isi_str_str, isi_str_list, isi_str_seq, isi_tuple_int, isi_tuple_bool, isi_tuple_tuple, isi_tuple_str, isi_tuple_list, isi_tuple_seq, isi_list_int, isi_list_bool, isi_list_tuple, isi_list_str, isi_list_list, isi_list_seq, isi_dict_int, isi_dict_bool, isi_dict_tuple, isi_dict_str, isi_dict_list, isi_dict_seq]
        have et : sIf (VE.tNot (tE (xOwn (C "is_whole") [] (xACons (xIx (xVar 1) (xVar 3)) (xACons (xC (.int (0))) (xACons (xBin .Sub (xVar 4) (xC (.int (1)))) xANil)))))) (sCons (sRet (xVar 3)) sNil) sNil [s0, .fz r, .fz (.bl false), .fz (.int pre.length), .fz (.int s)] = .next [s0, .fz r, .fz (.bl false), .fz (.int pre.length), .fz (.int s)] := by
          unfold sIf VE.tNot tE
          rw [eo]
          rfl
        rw [seq_next et]
        rfl
      rw [eb]
      have ef : fwL (s :: ss) (e :: es) pre.length = fwL ss es (pre.length + 1) := by simp [fwL, h]
      rw [ef]
      exact ⟨s3', s4', ih⟩
    · have h' : wh e 0 (s - 1) = false := by simpa using h
      have eb : fwB C [s0, .fz r, .fz (.bl false), .fz (.int pre.length), .fz (.int s)] = .ret (.va (.int pre.length) false) [s0, .fz r, .fz (.bl false), .fz (.int pre.length), .fz (.int s)] := by
        rw [h'] at hw
        unfold fwB
        rw [seq_next (ρ1 := [s0, .fz r, .fz (.bl false), .fz (.int pre.length), .fz (.int s)]) (by simp [sCons, sSet, sRet, sNil, sIf, sSub, VE.tAnd, VE.tOr, VE.tNot, tCm, tE, xCmp, xIx, xBin, xBi, xOwn, xIte, xNeg, xTup, xLst, xCons, xNil, xACons, xANil, xVar, xC, Rs.bind, Rs.toF, Rs.of, Rf.of, deref, getSl, putI, VE.stI, mayStore, binD, binI, endF, outS, ixD, at40, at41, at42, at43, bi_len, bi_int, bi_abs, cm_eq, cm_lt, cm_gt, lend, lend1, atsOf, giveBack, findArg, comb, whole, truD, xAnd, xOr, xNot, xCmp2, xIsi, tyD, cm_le, cm_ge, comb_none, isi_NoneType_int, isi_NoneType_bool, isi_NoneType_tuple, isi_NoneType_str, isi_NoneType_list, isi_NoneType_seq, isi_bool_int, isi_bool_bool, isi_bool_tuple, isi_bool_str, isi_bool_list, isi_bool_seq, isi_int_int, isi_int_bool, isi_int_tuple, isi_int_str, isi_int_list, isi_int_seq, isi_str_int, isi_str_bool, isi_str_tuple, isi_str_str, isi_str_list, isi_str_seq, isi_tuple_int, isi_tuple_bool, isi_tuple_tuple, isi_tuple_str, isi_tuple_list, isi_tuple_seq, isi_list_int, isi_list_bool, isi_list_tuple, isi_list_str, isi_list_list, isi_list_seq, isi_dict_int, isi_dict_bool, isi_dict_tuple, isi_dict_str, isi_dict_list, isi_dict_seq, hl, hlt])]
        rw [seq_next (ρ1 := [s0, .fz r, .fz (.bl false), .fz (.int pre.length), .fz (.int s)]) (by simp [sCons, sSet, sRet, sNil, sIf, sSub, VE.tAnd, VE.tOr, VE.tNot, tCm, tE, xCmp, xIx, xBin, xBi, xOwn, xIte, xNeg, xTup, xLst, xCons, xNil, xACons, xANil, xVar, xC, Rs.bind, Rs.toF, Rs.of, Rf.of, deref, getSl, putI, VE.stI, mayStore, binD, binI, endF, outS, ixD, at40, at41, at42, at43, bi_len, bi_int, bi_abs, cm_eq, cm_lt, cm_gt, lend, lend1, atsOf, giveBack, findArg, comb, whole, truD, xAnd, xOr, xNot, xCmp2, xIsi, tyD, cm_le, cm_ge, comb_none, isi_NoneType_int, isi_NoneType_bool, isi_NoneType_tuple, isi_NoneType_str, isi_NoneType_list, isi_NoneType_seq, isi_bool_int, isi_bool_bool, isi_bool_tuple, isi_bool_str, isi_bool_list, isi_bool_seq, isi_int_int, isi_int_bool, isi_int_tuple, isi_int_str, isi_int_list, isi_int_seq, isi_str_int, isi_str_bool, isi_str_tuple, isi_str_str, isi_str_list, isi_str_seq, isi_tuple_int, isi_tuple_bool, isi_tuple_tuple, isi_tuple_str, isi_tuple_list, isi_tuple_seq, isi_list_int, isi_list_bool, isi_list_tuple, isi_list_str, isi_list_list, isi_list_seq, isi_dict_int, isi_dict_bool, isi_dict_tuple, isi_dict_str, isi_dict_list, isi_dict_seq])]
        have ei : xIx (xVar 1) (xVar 3) [s0, .fz r, .fz (.bl false), .fz (.int pre.length), .fz (.int s)] = .ok (.va e false) [s0, .fz r, .fz (.bl false), .fz (.int pre.length), .fz (.int s)] := by
          simp [xIx, xVar, Rs.bind, Rs.of, deref, hix]
        have eo : xOwn (C "is_whole") [] (xACons (xIx (xVar 1) (xVar 3)) (xACons (xC (.int (0))) (xACons (xBin .Sub (xVar 4) (xC (.int (1)))) xANil))) [s0, .fz r, .fz (.bl false), .fz (.int pre.length), .fz (.int s)] = .ok (.va (.bl false) false) [s0, .fz r, .fz (.bl false), .fz (.int pre.length), .fz (.int s)] := by
          refine xOwn_ok (bs := [.va e false, .va (.int 0) false, .va (.int (s - 1)) false]) ?_ rfl hw (give_no rfl)
          simp only [xACons, ei]
          simp [sCons, sSet, sRet, sNil, sIf, sSub, VE.tAnd, VE.tOr, VE.tNot, tCm, tE, xCmp, xIx, xBin, xBi, xOwn, xIte, xNeg, xTup, xLst, xCons, xNil, xACons, xANil, xVar, xC, Rs.bind, Rs.toF, Rs.of, Rf.of, deref, getSl, putI, VE.stI, mayStore, binD, binI, endF, outS, ixD, at40, at41, at42, at43, bi_len, bi_int, bi_abs, cm_eq, cm_lt, cm_gt, lend, lend1, atsOf, giveBack, findArg, comb, whole, truD, xAnd, xOr, xNot, xCmp2, xIsi, tyD, cm_le, cm_ge, comb_none, isi_NoneType_int, isi_NoneType_bool, isi_NoneType_tuple, isi_NoneType_str, isi_NoneType_list, isi_NoneType_seq, isi_bool_int, isi_bool_bool, isi_bool_tuple, isi_bool_str, isi_bool_list, isi_bool_seq, isi_int_int, isi_int_bool, isi_int_tuple, isi_int_str, isi_int_list, isi_int_seq, isi_str_int, isi_str_bool, isi_str_tuple, isi_str_str, isi_str_list, isi_str_seq, isi_tuple_int, isi_tuple_bool, isi_tuple_tuple, isi_tuple_str, isi_tuple_list, isi_tuple_seq, isi_list_int, isi_list_bool, isi_list_tuple, isi_list_str, isi_list_list, isi_list_seq, isi_dict_int, isi_dict_bool, isi_dict_tuple, isi_dict_str, isi_dict_list, isi_dict_seq]
        have et : sIf (VE.tNot (tE (xOwn (C "is_whole") [] (xACons (xIx (xVar 1) (xVar 3)) (xACons (xC (.int (0))) (xACons (xBin .Sub (xVar 4) (xC (.int (1)))) xANil)))))) (sCons (sRet (xVar 3)) sNil) sNil [s0, .fz r, .fz (.bl false), .fz (.int pre.length), .fz (.int s)] = .ret (.va (.int pre.length) false) [s0, .fz r, .fz (.bl false), .fz (.int pre.length), .fz (.int s)] := by
          unfold sIf VE.tNot tE
          rw [eo]
          rfl
        rw [seq_ret et]
      rw [eb]
      have ef : fwL (s :: ss) (e :: es) pre.length = some pre.length := by simp [fwL, h']
      rw [ef]
      exact ⟨.fz (.int pre.length), .fz (.int s), rfl⟩
end LawP
end

section
set_option Elab.async false
set_option linter.all false
set_option maxRecDepth 100000
set_option maxHeartbeats 4000000
namespace LawP
open PySem PySem.Spec L2 VE

abbrev S0 (ss : List Int) : Sl := .ow .par (.lst (IL ss))
theorem fw_for {C : Str → List Sl → Cr} (hC : ∀ (d : D) (h : Int), kd d = true → C "is_whole" [.fz d, .fz (.int 0), .fz (.int h)] = .ret (.bl (wh d 0 h)) false [.fz d, .fz (.int 0), .fz (.int h)]) {ss : List Int} {r : D} {es : List D} (hr : IsRow r es) (hk : ∀ e ∈ es, kd e = true) :
    ∃ s3' s4', sFor (VE.iEnu (xVar 0)) (agT [3, 4]) (fwB C) [S0 ss, .fz r, .fz (.bl false), .un, .un] = match fwL ss es 0 with
      | none => .next [S0 ss, .fz r, .fz (.bl false), s3', s4']
      | some j => .ret (.va (.int j) false) [S0 ss, .fz r, .fz (.bl false), s3', s4'] := by
  obtain ⟨s3', s4', e⟩ := fw_loop hC (s0 := .ow .lck (.lst (IL ss))) hr hk ss es [] .un .un rfl rfl rfl
  refine ⟨s3', s4', ?_⟩
  have ei : VE.iEnu (xVar 0) [S0 ss, .fz r, .fz (.bl false), .un, .un] = .ok (enF 0 ss, [(0, .par)]) [S0 ss, .fz r, .fz (.bl false), .un, .un] := by
    rw [← enum_eq]
    rfl
  unfold sFor
  rw [ei]
  have e' : loopF (agT [3, 4]) (fwB C) (enF 0 ss) [.ow .lck (.lst (IL ss)), .fz r, .fz (.bl false), .un, .un] = _ := e
  cases q : fwL ss es 0 with
  | none =>
    have q' : fwL ss es ([] : List D).length = none := q
    rw [q'] at e'
    exact congrArg (Rf.map (unlockAll [(0, .par)])) e'
  | some j =>
    have q' : fwL ss es ([] : List D).length = some j := q
    rw [q'] at e'
    exact congrArg (Rf.map (unlockAll [(0, .par)])) e'
/-- what is_filling answers -/
def isF (ss : List Int) (es : List D) : Bool := isNonD (firstW ss es)
theorem c_fwrong (k : Nat) {ss : List Int} {r : D} {es : List D} (hr : IsRow r es) (hk : ∀ e ∈ es, kd e = true) : (Mk (k + 2)).call "first_wrong" [S0 ss, .fz r, .fz (.bl false)] = .ret (firstW ss es) false [S0 ss, .fz r, .fz (.bl false)] := by
  rw [call_eq (k := k + 1) (e := e_first_wrong) rfl (mo_first_wrong (k + 1)) rfl rfl]
  have hC : ∀ (d : D) (h : Int), kd d = true → (Mk (k + 1)).call "is_whole" [.fz d, .fz (.int 0), .fz (.int h)] = .ret (.bl (wh d 0 h)) false [.fz d, .fz (.int 0), .fz (.int h)] := fun d h hd => c_is_whole k hd
  have em : m_first_wrong (Mk (k + 1)).call = (sCons (sIf (VE.tNot (tE (xIsi (xVar 1) ["list", "tuple"]))) (sCons (sRet (xC (.int (0)))) sNil) sNil) (sCons (sFor (VE.iEnu (xVar 0)) (agT [3, 4]) (fwB (Mk (k + 1)).call)) (sCons (sRet (xIte (tCm (xCmp .Gt (xBi "len" (xACons (xVar 1) xANil)) (xBi "len" (xACons (xVar 0) xANil)))) (xBi "len" (xACons (xVar 0) xANil)) (xC (.non)))) sNil))) := rfl
  rw [em]
  generalize (Mk (k + 1)).call = C at hC
  obtain ⟨s3', s4', e⟩ := fw_for hC (ss := ss) hr hk
  have hl := row_len hr
  show endF _ (sCons _ _ [S0 ss, .fz r, .fz (.bl false), .un, .un]) = _
  rw [seq_next (ρ1 := [S0 ss, .fz r, .fz (.bl false), .un, .un]) (by rcases hr with rfl | rfl <;> simp [sCons, sSet, sRet, sNil, sIf, sSub, VE.tAnd, VE.tOr, VE.tNot, tCm, tE, xCmp, xIx, xBin, xBi, xOwn, xIte, xNeg, xTup, xLst, xCons, xNil, xACons, xANil, xVar, xC, Rs.bind, Rs.toF, Rs.of, Rf.of, deref, getSl, putI, VE.stI, mayStore, binD, binI, endF, outS, ixD, at40, at41, at42, at43, bi_len, bi_int, bi_abs, cm_eq, cm_lt, cm_gt, lend, lend1, atsOf, giveBack, findArg, comb, whole, truD, xAnd, xOr, xNot, xCmp2, xIsi, tyD, cm_le, cm_ge, comb_none, isi_NoneType_int, isi_NoneType_bool, isi_NoneType_tuple, isi_NoneType_str, isi_NoneType_list, isi_NoneType_seq, isi_bool_int, isi_bool_bool, isi_bool_tuple, isi_bool_str, isi_bool_list, isi_bool_seq, isi_int_int, isi_int_bool, isi_int_tuple, isi_int_str, isi_int_list, isi_int_seq, isi_str_int, isi_str_bool, isi_str_tuple, isi_str_str, isi_str_list, isi_str_seq, isi_tuple_int, isi_tuple_bool, isi_tuple_tuple, isi_tuple_str, isi_tuple_list, isi_tuple_seq, isi_list_int, isi_list_bool, isi_list_tuple, isi_list_str, isi_list_list, isi_list_seq, isi_dict_int, isi_dict_bool, isi_dict_tuple, isi_dict_str, isi_dict_list, isi_dict_seq])]
  cases q : fwL ss es 0 with
  | none =>
    rw [q] at e
    rw [seq_next e]
    have e1 : xBi "len" (xACons (xVar 1) xANil) [S0 ss, .fz r, .fz (.bl false), s3', s4'] = .ok (.va (.int es.length) false) [S0 ss, .fz r, .fz (.bl false), s3', s4'] := by
      simp [xBi, xACons, xANil, xVar, Rs.bind, Rs.of, deref, hl]
    have e2 : xBi "len" (xACons (xVar 0) xANil) [S0 ss, .fz r, .fz (.bl false), s3', s4'] = .ok (.va (.int ss.length) false) [S0 ss, .fz r, .fz (.bl false), s3', s4'] := by
      simp [xBi, xACons, xANil, xVar, Rs.bind, Rs.of, deref, getSl, bi_len]
    by_cases h : ss.length < es.length
    · have ef : firstW ss es = .int ss.length := by simp [firstW, q, h]
      rw [ef]
      have e3 : sRet (xIte (tCm (xCmp .Gt (xBi "len" (xACons (xVar 1) xANil)) (xBi "len" (xACons (xVar 0) xANil)))) (xBi "len" (xACons (xVar 0) xANil)) (xC (.non))) [S0 ss, .fz r, .fz (.bl false), s3', s4'] = .ret (.va (.int ss.length) false) [S0 ss, .fz r, .fz (.bl false), s3', s4'] := by
        simp [sRet, xIte, tCm, xCmp, e1, e2, Rs.bind, Rs.of, Rs.toF, deref, cm_gt, h]
      rw [seq_ret e3]
      rfl
    · have ef : firstW ss es = .non := by simp [firstW, q, h]
      rw [ef]
      have e3 : sRet (xIte (tCm (xCmp .Gt (xBi "len" (xACons (xVar 1) xANil)) (xBi "len" (xACons (xVar 0) xANil)))) (xBi "len" (xACons (xVar 0) xANil)) (xC (.non))) [S0 ss, .fz r, .fz (.bl false), s3', s4'] = .ret (.va .non false) [S0 ss, .fz r, .fz (.bl false), s3', s4'] := by
        simp [sRet, xIte, tCm, xCmp, e1, e2, Rs.bind, Rs.of, Rs.toF, deref, cm_gt, h, xC]
      rw [seq_ret e3]
      rfl
  | some j =>
    rw [q] at e
    rw [seq_ret e]
    have ef : firstW ss es = .int j := by simp [firstW, q]
    rw [ef]
    rfl
/-- no row at all -/
def noRow : D → Bool
  | .tup _ => false
  | .lst _ => false
  | .scr _ => false
  | .obj _ _ => false
  | _ => true
theorem c_fwrong0 (k : Nat) {ss : List Int} {r : D} (hr : noRow r = true) : (Mk (k + 2)).call "first_wrong" [S0 ss, .fz r, .fz (.bl false)] = .ret (.int 0) false [S0 ss, .fz r, .fz (.bl false)] := by
  rw [call_eq (k := k + 1) (e := e_first_wrong) rfl (mo_first_wrong (k + 1)) rfl rfl]
  have em : m_first_wrong (Mk (k + 1)).call = (sCons (sIf (VE.tNot (tE (xIsi (xVar 1) ["list", "tuple"]))) (sCons (sRet (xC (.int (0)))) sNil) sNil) (sCons (sFor (VE.iEnu (xVar 0)) (agT [3, 4]) (fwB (Mk (k + 1)).call)) (sCons (sRet (xIte (tCm (xCmp .Gt (xBi "len" (xACons (xVar 1) xANil)) (xBi "len" (xACons (xVar 0) xANil)))) (xBi "len" (xACons (xVar 0) xANil)) (xC (.non)))) sNil))) := rfl
  rw [em]
  generalize (Mk (k + 1)).call = C
  show endF _ (sCons _ _ [S0 ss, .fz r, .fz (.bl false), .un, .un]) = _
  have e1 : sIf (VE.tNot (tE (xIsi (xVar 1) ["list", "tuple"]))) (sCons (sRet (xC (.int (0)))) sNil) sNil [S0 ss, .fz r, .fz (.bl false), .un, .un] = .ret (.va (.int 0) false) [S0 ss, .fz r, .fz (.bl false), .un, .un] := by
    cases r <;> first | (cases hr; done) | simp [sCons, sSet, sRet, sNil, sIf, sSub, VE.tAnd, VE.tOr, VE.tNot, tCm, tE, xCmp, xIx, xBin, xBi, xOwn, xIte, xNeg, xTup, xLst, xCons, xNil, xACons, xANil, xVar, xC, Rs.bind, Rs.toF, Rs.of, Rf.of, deref, getSl, putI, VE.stI, mayStore, binD, binI, endF, outS, ixD, at40, at41, at42, at43, bi_len, bi_int, bi_abs, cm_eq, cm_lt, cm_gt, lend, lend1, atsOf, giveBack, findArg, comb, whole, truD, xAnd, xOr, xNot, xCmp2, xIsi, tyD, cm_le, cm_ge, comb_none, isi_NoneType_int, isi_NoneType_bool, isi_NoneType_tuple, isi_NoneType_str, isi_NoneType_list, isi_NoneType_seq, isi_bool_int, isi_bool_bool, isi_bool_tuple, isi_bool_str, isi_bool_list, isi_bool_seq, isi_int_int, isi_int_bool, isi_int_tuple, isi_int_str, isi_int_list, isi_int_seq, isi_str_int, isi_str_bool, isi_str_tuple, isi_str_str, isi_str_list, isi_str_seq, isi_tuple_int, isi_tuple_bool, isi_tuple_tuple, isi_tuple_str, isi_tuple_list, isi_tuple_seq, isi_list_int, isi_list_bool, isi_list_tuple, isi_list_str, isi_list_list, isi_list_seq, isi_dict_int, isi_dict_bool, isi_dict_tuple, isi_dict_str, isi_dict_list, isi_dict_seq]
  rw [seq_ret e1]
  rfl
/-- a row, or no row -/
def okRow : D → Prop
  | .tup es => ∀ e ∈ es, kd e = true
  | .lst es => ∀ e ∈ es, kd e = true
  | r => noRow r = true
def isFr (ss : List Int) : D → Bool
  | .tup es => isF ss es
  | .lst es => isF ss es
  | _ => false
theorem c_isfil (k : Nat) {ss : List Int} {r : D} (hr : okRow r) : (Mk (k + 3)).call "is_filling" [S0 ss, .fz r] = .ret (.bl (isFr ss r)) false [S0 ss, .fz r] := by
  rw [call_eq (k := k + 2) (e := e_is_filling) rfl (mo_is_filling (k + 2)) rfl rfl]
  have key : ∃ d, (Mk (k + 2)).call "first_wrong" [S0 ss, .fz r, .fz (.bl false)] = .ret d false [S0 ss, .fz r, .fz (.bl false)] ∧ isNonD d = isFr ss r := by
    cases r with
    | tup es => exact ⟨_, c_fwrong k (.inl rfl) hr, rfl⟩
    | lst es => exact ⟨_, c_fwrong k (.inr rfl) hr, rfl⟩
    | _ => exact ⟨_, c_fwrong0 k hr, rfl⟩
  obtain ⟨d, e, hd⟩ := key
  have em : m_is_filling (Mk (k + 2)).call = (sCons (sRet (xCmp .Is (xOwn ((Mk (k + 2)).call "first_wrong") [.bl false] (xACons (xVar 0) (xACons (xVar 1) xANil))) (xC (.non)))) sNil) := rfl
  rw [em]
  generalize (Mk (k + 2)).call = C at e ⊢
  have ex : xOwn (C "first_wrong") [.bl false] (xACons (xVar 0) (xACons (xVar 1) xANil)) [S0 ss, .fz r] = .ok (.va d false) [S0 ss, .fz r] := xOwn_ok (bs := [.at 0, .va r false]) rfl rfl e rfl
  have er : sRet (xCmp .Is (xOwn (C "first_wrong") [.bl false] (xACons (xVar 0) (xACons (xVar 1) xANil))) (xC (.non))) [S0 ss, .fz r] = .ret (.va (.bl (isFr ss r)) false) [S0 ss, .fz r] := by
    simp [sRet, xCmp, ex, Rs.bind, Rs.of, Rs.toF, deref, xC, is_non, hd]
  show endF _ (sCons _ _ [S0 ss, .fz r]) = _
  rw [seq_ret er]
  rfl
/-! what a filling is -/
def allW : List Int → List D → Bool
  | s :: ss, e :: es => wh e 0 (s - 1) && allW ss es
  | _, _ => true
theorem fwL_none : ∀ (ss : List Int) (es : List D) (i : Nat), (fwL ss es i).isNone = (decide (ss.length ≤ es.length) && allW ss es)
  | [], es, i => by cases es <;> simp [fwL, allW]
  | s :: ss, [], i => by simp [fwL]
  | s :: ss, e :: es, i => by
    by_cases h : wh e 0 (s - 1) = true
    · simp [fwL, allW, h, fwL_none ss es (i + 1)]
    · simp [fwL, allW, h]
theorem isF_eq (ss : List Int) (es : List D) : isF ss es = (decide (es.length = ss.length) && allW ss es) := by
  have h := fwL_none ss es 0
  unfold isF firstW
  cases q : fwL ss es 0 with
  | some j =>
    rw [q] at h
    simp only [Option.isNone_some] at h
    simp only [isNonD]
    by_cases h1 : es.length = ss.length
    · have : decide (ss.length ≤ es.length) = true := decide_eq_true (by omega)
      rw [this, Bool.true_and] at h
      rw [← h, Bool.and_false]
    · rw [decide_eq_false h1, Bool.false_and]
  | none =>
    rw [q] at h
    simp only [Option.isNone_none] at h
    obtain ⟨h1, h2⟩ := Bool.and_eq_true_iff.mp h.symm
    have h1' := of_decide_eq_true h1
    by_cases h3 : ss.length < es.length
    · simp only [if_pos h3, isNonD]
      rw [decide_eq_false (by omega), Bool.false_and]
    · simp only [if_neg h3, isNonD]
      rw [decide_eq_true (by omega), h2, Bool.true_and]
end LawP
end

section
set_option Elab.async false
set_option linter.all false
set_option maxRecDepth 100000
set_option maxHeartbeats 4000000
namespace LawP
open PySem PySem.Spec L2 VE

/-! the law's own judge of rows -/
def lifT (C : Str → List Sl → Cr) : XT := (VE.tNot (tE (xOwn (C "_law_whole") [] (xACons (xIx (xVar 1) (xVar 2)) (xACons (xC (.int (0))) (xACons (xBin .Sub (xIx (xVar 0) (xVar 2)) (xC (.int (1)))) xANil))))))
theorem lif_loop {C : Str → List Sl → Cr} (hC : ∀ (d : D) (h : Int), kd d = true → C "_law_whole" [.fz d, .fz (.int 0), .fz (.int h)] = .ret (.bl (wh d 0 h)) false [.fz d, .fz (.int 0), .fz (.int h)]) {r : D} {all : List D} {sal : List Int} (hr : IsRow r all) (hk : ∀ e ∈ all, kd e = true) :
    ∀ (ss : List Int) (es pre : List D) (spre : List Int) (acc : List D), all = pre ++ es → sal = spre ++ ss → spre.length = pre.length → es.length = ss.length → acc.length + ss.length ≤ 1000 →
    ∃ l, loopC [2] (agI 2) (lifT C) (xVar 2) (rngD pre.length ss.length) acc [S0 sal, .fz r, .un] = .ok (acc ++ l) [S0 sal, .fz r, .un] ∧ l.isEmpty = allW ss es
  | [], [], pre, spre, acc, _, _, _, _, _ => ⟨[], by simp [rngD, loopC], rfl⟩
  | [], _ :: _, _, _, _, _, _, _, h, _ => by cases h
  | _ :: _, [], _, _, _, _, _, _, h, _ => by cases h
  | s :: ss, e :: es, pre, spre, acc, ha, hs, hp, hl, hz => by
    have hz' : acc.length + (ss.length + 1) ≤ 1000 := hz
    have hix : ixD r (.int (pre.length : Int)) = some e := row_ix (by rw [← ha]; exact hr)
    have hsx : L2.atI (IL sal) (pre.length : Int) = some (.int s) := by
      rw [hs]
      show L2.atI ((spre ++ s :: ss).map D.int) _ = _
      rw [List.map_append, List.map_cons]
      exact atI_mid _ _ _ _ (by simp [hp])
    have hw := hC e (s - 1) (hk e (by rw [ha]; simp))
    have ea : agI 2 (.int pre.length) [S0 sal, .fz r, .un] = some [S0 sal, .fz r, .fz (.int pre.length)] := rfl
    have e0 : xIx (xVar 1) (xVar 2) [S0 sal, .fz r, .fz (.int pre.length)] = .ok (.va e false) [S0 sal, .fz r, .fz (.int pre.length)] := by
      simp [xIx, xVar, Rs.bind, Rs.of, deref, hix]
    have e1 : xIx (xVar 0) (xVar 2) [S0 sal, .fz r, .fz (.int pre.length)] = .ok (.va (.int s) false) [S0 sal, .fz r, .fz (.int pre.length)] := by
      simp [xIx, xVar, Rs.bind, Rs.of, deref, getSl, ixD, hsx]
    have ex : xOwn (C "_law_whole") [] (xACons (xIx (xVar 1) (xVar 2)) (xACons (xC (.int (0))) (xACons (xBin .Sub (xIx (xVar 0) (xVar 2)) (xC (.int (1)))) xANil))) [S0 sal, .fz r, .fz (.int pre.length)] = .ok (.va (.bl (wh e 0 (s - 1))) false) [S0 sal, .fz r, .fz (.int pre.length)] := by
      refine xOwn_ok (bs := [.va e false, .va (.int 0) false, .va (.int (s - 1)) false]) ?_ rfl hw (give_no rfl)
      simp [xACons, xANil, xBin, e0, e1, Rs.bind, xC, Rs.of, deref, binD, binI]
    have et : lifT C [S0 sal, .fz r, .fz (.int pre.length)] = .ok (!wh e 0 (s - 1)) [S0 sal, .fz r, .fz (.int pre.length)] := by
      unfold lifT VE.tNot tE
      rw [ex]
      rfl
    have ha2 : all = (pre ++ [e]) ++ es := by rw [ha]; simp
    have hs2 : sal = (spre ++ [s]) ++ ss := by rw [hs]; simp
    have hpl : (pre ++ [e]).length = pre.length + 1 := by simp
    have hl2 : es.length = ss.length := by simpa using hl
    have er : rngD (pre.length : Int) (s :: ss).length = .int pre.length :: rngD ((pre.length + 1 : Nat) : Int) ss.length := by
      rw [List.length_cons, rng_succ]
      rfl
    have ew : wipeR [2] [S0 sal, .fz r, .fz (.int (pre.length : Int))] = [S0 sal, .fz r, .un] := rfl
    rw [er]
    by_cases h : wh e 0 (s - 1) = true
    · obtain ⟨l, ih, hi⟩ := lif_loop hC hr hk ss es (pre ++ [e]) (spre ++ [s]) acc ha2 hs2 (by simp [hp]) hl2 (by omega)
      rw [hpl] at ih
      refine ⟨l, ?_, by rw [hi]; simp [allW, h]⟩
      rw [loopC, ea]
      simp only [et, h, Bool.not_true, Bool.false_eq_true, if_false, ew]
      exact ih
    · have h' : wh e 0 (s - 1) = false := by simpa using h
      obtain ⟨l, ih, hi⟩ := lif_loop hC hr hk ss es (pre ++ [e]) (spre ++ [s]) (acc ++ [.int pre.length]) ha2 hs2 (by simp [hp]) hl2 (by rw [List.length_append, List.length_singleton]; omega)
      rw [hpl] at ih
      refine ⟨.int pre.length :: l, ?_, by simp [allW, h']⟩
      have gs : acc.length < sizeLine := by rw [sizeLine_eq]; omega
      have ev : xVar 2 [S0 sal, .fz r, .fz (.int (pre.length : Int))] = .ok (.va (.int pre.length) false) [S0 sal, .fz r, .fz (.int pre.length)] := rfl
      rw [loopC, ea]
      simp only [et, h', Bool.not_false, if_true, ev, whole]
      rw [if_pos (decide_eq_true gs), ew, ih, List.append_assoc]
      rfl
theorem c_lisfil (k : Nat) {ss : List Int} (hs : ss.length ≤ 6) {r : D} (hr : okRow r) : (Mk (k + 2)).call "_law_is_filling" [S0 ss, .fz r] = .ret (.bl (isFr ss r)) false [S0 ss, .fz r] := by
  rw [call_eq (k := k + 1) (e := e__law_is_filling) rfl (mo__law_is_filling (k + 1)) rfl rfl]
  have hC : ∀ (d : D) (h : Int), kd d = true → (Mk (k + 1)).call "_law_whole" [.fz d, .fz (.int 0), .fz (.int h)] = .ret (.bl (wh d 0 h)) false [.fz d, .fz (.int 0), .fz (.int h)] := fun d h hd => c_whole k hd
  have em : m__law_is_filling (Mk (k + 1)).call = (sCons (sIf (VE.tOr (VE.tNot (tE (xIsi (xVar 1) ["list", "tuple"]))) (tCm (xCmp .NotEq (xBi "len" (xACons (xVar 1) xANil)) (xBi "len" (xACons (xVar 0) xANil))))) (sCons (sRet (xC (.bl false))) sNil) sNil) (sCons (sRet (xNot (xComp [2] (VE.iRng1 (xBi "len" (xACons (xVar 0) xANil))) (agI 2) (lifT (Mk (k + 1)).call) (xVar 2)))) sNil)) := rfl
  rw [em]
  generalize (Mk (k + 1)).call = C at hC
  show endF _ (sCons _ _ [S0 ss, .fz r, .un]) = _
  have no : isFr ss r = false → sIf (VE.tOr (VE.tNot (tE (xIsi (xVar 1) ["list", "tuple"]))) (tCm (xCmp .NotEq (xBi "len" (xACons (xVar 1) xANil)) (xBi "len" (xACons (xVar 0) xANil))))) (sCons (sRet (xC (.bl false))) sNil) sNil [S0 ss, .fz r, .un] = .ret (.va (.bl false) false) [S0 ss, .fz r, .un] → endF [S0 ss, .fz r] (sCons (sIf (VE.tOr (VE.tNot (tE (xIsi (xVar 1) ["list", "tuple"]))) (tCm (xCmp .NotEq (xBi "len" (xACons (xVar 1) xANil)) (xBi "len" (xACons (xVar 0) xANil))))) (sCons (sRet (xC (.bl false))) sNil) sNil) (sCons (sRet (xNot (xComp [2] (VE.iRng1 (xBi "len" (xACons (xVar 0) xANil))) (agI 2) (lifT C) (xVar 2)))) sNil) [S0 ss, .fz r, .un]) = .ret (.bl (isFr ss r)) false [S0 ss, .fz r] := fun h e => by
    rw [seq_ret e, h]
    rfl
  have row : ∀ {es : List D}, IsRow r es → (∀ e ∈ es, kd e = true) → isFr ss r = isF ss es → endF [S0 ss, .fz r] (sCons (sIf (VE.tOr (VE.tNot (tE (xIsi (xVar 1) ["list", "tuple"]))) (tCm (xCmp .NotEq (xBi "len" (xACons (xVar 1) xANil)) (xBi "len" (xACons (xVar 0) xANil))))) (sCons (sRet (xC (.bl false))) sNil) sNil) (sCons (sRet (xNot (xComp [2] (VE.iRng1 (xBi "len" (xACons (xVar 0) xANil))) (agI 2) (lifT C) (xVar 2)))) sNil) [S0 ss, .fz r, .un]) = .ret (.bl (isFr ss r)) false [S0 ss, .fz r] := fun {es} hro hk hf => by
    have hl := row_len hro
    have e1 : xBi "len" (xACons (xVar 1) xANil) [S0 ss, .fz r, .un] = .ok (.va (.int es.length) false) [S0 ss, .fz r, .un] := by
      simp [xBi, xACons, xANil, xVar, Rs.bind, Rs.of, deref, hl]
    have e2 : xBi "len" (xACons (xVar 0) xANil) [S0 ss, .fz r, .un] = .ok (.va (.int ss.length) false) [S0 ss, .fz r, .un] := by
      simp [xBi, xACons, xANil, xVar, Rs.bind, Rs.of, deref, getSl, bi_len]
    have e3 : xIsi (xVar 1) ["list", "tuple"] [S0 ss, .fz r, .un] = .ok (.va (.bl true) false) [S0 ss, .fz r, .un] := by
      rcases hro with rfl | rfl <;> simp [sCons, sSet, sRet, sNil, sIf, sSub, VE.tAnd, VE.tOr, VE.tNot, tCm, tE, xCmp, xIx, xBin, xBi, xOwn, xIte, xNeg, xTup, xLst, xCons, xNil, xACons, xANil, xVar, xC, Rs.bind, Rs.toF, Rs.of, Rf.of, deref, getSl, putI, VE.stI, mayStore, binD, binI, endF, outS, ixD, at40, at41, at42, at43, bi_len, bi_int, bi_abs, cm_eq, cm_lt, cm_gt, lend, lend1, atsOf, giveBack, findArg, comb, whole, truD, xAnd, xOr, xNot, xCmp2, xIsi, tyD, cm_le, cm_ge, comb_none, isi_NoneType_int, isi_NoneType_bool, isi_NoneType_tuple, isi_NoneType_str, isi_NoneType_list, isi_NoneType_seq, isi_bool_int, isi_bool_bool, isi_bool_tuple, isi_bool_str, isi_bool_list, isi_bool_seq, isi_int_int, isi_int_bool, isi_int_tuple, isi_int_str, isi_int_list, isi_int_seq, isi_str_int, isi_str_bool, isi_str_tuple, isi_str_str, isi_str_list, isi_str_seq, isi_tuple_int, isi_tuple_bool, isi_tuple_tuple, isi_tuple_str, isi_tuple_list, isi_tuple_seq, isi_list_int, isi_list_bool, isi_list_tuple, isi_list_str, isi_list_list, isi_list_seq, isi_dict_int, isi_dict_bool, isi_dict_tuple, isi_dict_str, isi_dict_list, isi_dict_seq]
    rw [isF_eq] at hf
    by_cases h : es.length = ss.length
    · rw [decide_eq_true h, Bool.true_and] at hf
      have c1 : sIf (VE.tOr (VE.tNot (tE (xIsi (xVar 1) ["list", "tuple"]))) (tCm (xCmp .NotEq (xBi "len" (xACons (xVar 1) xANil)) (xBi "len" (xACons (xVar 0) xANil))))) (sCons (sRet (xC (.bl false))) sNil) sNil [S0 ss, .fz r, .un] = .next [S0 ss, .fz r, .un] := by
        simp [sIf, VE.tOr, VE.tNot, tE, tCm, xCmp, e1, e2, e3, Rs.bind, Rs.of, Rs.toF, deref, truD, cm_ne, h, sNil]
      rw [seq_next c1]
      obtain ⟨l, el, hi⟩ := lif_loop hC (sal := ss) hro hk ss es [] [] [] rfl rfl rfl h (by simp; omega)
      have ei := rng1_ok (a := xBi "len" (xACons (xVar 0) xANil)) (N := ss.length) e2 (small_of (by omega) (by omega))
      rw [Int.toNat_natCast] at ei
      have ec : xComp [2] (VE.iRng1 (xBi "len" (xACons (xVar 0) xANil))) (agI 2) (lifT C) (xVar 2) [S0 ss, .fz r, .un] = .ok (.va (.lst l) true) [S0 ss, .fz r, .un] := by
        unfold xComp
        rw [ei]
        simp only [Rs.bind]
        rw [if_pos (by simp [lockAll, flatSl])]
        have ew : wipeR [2] (lockAll [] [S0 ss, .fz r, .un]) = [S0 ss, .fz r, .un] := rfl
        have el' : loopC [2] (agI 2) (lifT C) (xVar 2) (rngD 0 ss.length) [] [S0 ss, .fz r, .un] = .ok l [S0 ss, .fz r, .un] := el
        rw [ew, el']
        rfl
      have er : sRet (xNot (xComp [2] (VE.iRng1 (xBi "len" (xACons (xVar 0) xANil))) (agI 2) (lifT C) (xVar 2))) [S0 ss, .fz r, .un] = .ret (.va (.bl (isFr ss r)) false) [S0 ss, .fz r, .un] := by
        unfold sRet xNot
        rw [ec]
        simp only [Rs.bind, Rs.of, Rs.toF, deref, truD, Option.bind_some, Option.map_some, Bool.not_not, hi]
        rw [hf]
      rw [seq_ret er]
      rfl
    · rw [decide_eq_false h, Bool.false_and] at hf
      have c1 : sIf (VE.tOr (VE.tNot (tE (xIsi (xVar 1) ["list", "tuple"]))) (tCm (xCmp .NotEq (xBi "len" (xACons (xVar 1) xANil)) (xBi "len" (xACons (xVar 0) xANil))))) (sCons (sRet (xC (.bl false))) sNil) sNil [S0 ss, .fz r, .un] = .ret (.va (.bl false) false) [S0 ss, .fz r, .un] := by
        have h' : ¬ ((es.length : Int) = ss.length) := by omega
        simp [sIf, VE.tOr, VE.tNot, tE, tCm, xCmp, e1, e2, e3, Rs.bind, Rs.of, Rs.toF, deref, truD, cm_ne, h', sNil, sCons, sRet, xC]
      exact no hf c1
  cases r with
  | tup es => exact row (.inl rfl) hr rfl
  | lst es => exact row (.inr rfl) hr rfl
  | scr _ => cases hr
  | obj _ _ => cases hr
  | _ => exact no rfl (by simp [sCons, sSet, sRet, sNil, sIf, sSub, VE.tAnd, VE.tOr, VE.tNot, tCm, tE, xCmp, xIx, xBin, xBi, xOwn, xIte, xNeg, xTup, xLst, xCons, xNil, xACons, xANil, xVar, xC, Rs.bind, Rs.toF, Rs.of, Rf.of, deref, getSl, putI, VE.stI, mayStore, binD, binI, endF, outS, ixD, at40, at41, at42, at43, bi_len, bi_int, bi_abs, cm_eq, cm_lt, cm_gt, lend, lend1, atsOf, giveBack, findArg, comb, whole, truD, xAnd, xOr, xNot, xCmp2, xIsi, tyD, cm_le, cm_ge, comb_none, isi_NoneType_int, isi_NoneType_bool, isi_NoneType_tuple, isi_NoneType_str, isi_NoneType_list, isi_NoneType_seq, isi_bool_int, isi_bool_bool, isi_bool_tuple, isi_bool_str, isi_bool_list, isi_bool_seq, isi_int_int, isi_int_bool, isi_int_tuple, isi_int_str, isi_int_list, isi_int_seq, isi_str_int, isi_str_bool, isi_str_tuple, isi_str_str, isi_str_list, isi_str_seq, isi_tuple_int, isi_tuple_bool, isi_tuple_tuple, isi_tuple_str, isi_tuple_list, isi_tuple_seq, isi_list_int, isi_list_bool, isi_list_tuple, isi_list_str, isi_list_list, isi_list_seq, isi_dict_int, isi_dict_bool, isi_dict_tuple, isi_dict_str, isi_dict_list, isi_dict_seq])
end LawP
end

section
set_option Elab.async false
set_option linter.all false
set_option maxRecDepth 100000
set_option maxHeartbeats 4000000
namespace LawP
open PySem PySem.Spec L2 VE

/-! ### numbers of fillings -/
def numb : List Int → List D → Int → Int
  | s :: ss, .int x :: es, a => numb ss es (a * s + x)
  | _, _, a => a
theorem wh_int {e : D} {s : Int} (h : wh e 0 (s - 1) = true) : ∃ x, e = .int x ∧ 0 ≤ x ∧ x < s := by
  cases e with
  | int x =>
    simp only [wh, Bool.and_eq_true, decide_eq_true_eq] at h
    exact ⟨x, rfl, h.1, by omega⟩
  | _ => cases h
theorem num_bits {a s x : Int} {n : Nat} (ha : a.natAbs < 2 ^ n) (hs : 0 < s ∧ s ≤ 40) (hx : 0 ≤ x ∧ x < s) : (a * s + x).natAbs < 2 ^ (n + 7) := by
  have h1 : (a * s).natAbs < 2 ^ (n + 6) := by
    rw [Int.natAbs_mul, Nat.pow_add]
    exact Nat.mul_lt_mul'' ha (by omega)
  have h2 : x.natAbs < 2 ^ (n + 6) := Nat.lt_of_lt_of_le (m := 2 ^ 6) (by omega) (Nat.pow_le_pow_right (by decide) (by omega))
  have h3 := Int.natAbs_add_le (a * s) x
  rw [show n + 7 = (n + 6) + 1 from rfl, Nat.pow_succ]
  omega
def numB : XS := (sCons (sSet 2 (xBin .Add (xBin .Mult (xVar 2) (xVar 4)) (xIx (xVar 1) (xVar 3)))) sNil)
theorem num_loop {s0 : Sl} {r : D} {all : List D} (hr : IsRow r all) : ∀ (ss : List Int) (es pre : List D) (a : Int) (n : Nat) (s3 s4 : Sl), all = pre ++ es → Ms s3 → Ms s4 → es.length = ss.length → allW ss es = true → (∀ x ∈ ss, 0 < x ∧ x ≤ 40) → a.natAbs < 2 ^ n → 0 < n → n + 7 * ss.length ≤ 1000 →
    ∃ s3' s4', loopF (agT [3, 4]) numB (enF pre.length ss) [s0, .fz r, .fz (.int a), s3, s4] = .next [s0, .fz r, .fz (.int (numb ss es a)), s3', s4']
  | [], [], pre, a, n, s3, s4, _, _, _, _, _, _, _, _, _ => ⟨s3, s4, by simp [enF, loopF, numb]⟩
  | [], _ :: _, _, _, _, _, _, _, _, _, h, _, _, _, _, _ => by cases h
  | _ :: _, [], _, _, _, _, _, _, _, _, h, _, _, _, _, _ => by cases h
  | s :: ss, e :: es, pre, a, n, s3, s4, ha, m3, m4, hl, hw, hb, hn, hn0, hz => by
    have hz' : n + 7 * (ss.length + 1) ≤ 1000 := hz
    obtain ⟨w1, w2⟩ := Bool.and_eq_true_iff.mp (show (wh e 0 (s - 1) && allW ss es) = true from hw)
    obtain ⟨x, rfl, x0, x1⟩ := wh_int w1
    have hs := hb s List.mem_cons_self
    have g : mulOk a s = true := mulOk_of n 6 hn (by omega) hn0 (by decide) (by omega)
    have hix : ixD r (.int (pre.length : Int)) = some (.int x) := row_ix (by rw [← ha]; exact hr)
    have ha2 : all = (pre ++ [.int x]) ++ es := by rw [ha]; simp
    have hpl : (pre ++ [D.int x]).length = pre.length + 1 := by simp
    obtain ⟨s3', s4', ih⟩ := num_loop (s0 := s0) hr ss es (pre ++ [.int x]) (a * s + x) (n + 7) (.fz (.int pre.length)) (.fz (.int s)) ha2 rfl rfl (by simpa using hl) w2 (fun y hy => hb y (List.mem_cons_of_mem _ hy)) (num_bits hn hs ⟨x0, x1⟩) (by omega) (by omega)
    rw [hpl] at ih
    refine ⟨s3', s4', ?_⟩
    have ea := agT2 (s0 := s0) (s1 := .fz r) (s2 := .fz (.int a)) (a := .int (pre.length : Int)) (b := .int s) m3 m4
    have ei : xIx (xVar 1) (xVar 3) [s0, .fz r, .fz (.int a), .fz (.int pre.length), .fz (.int s)] = .ok (.va (.int x) false) [s0, .fz r, .fz (.int a), .fz (.int pre.length), .fz (.int s)] := by
      simp [xIx, xVar, Rs.bind, Rs.of, deref, hix]
    have eb : numB [s0, .fz r, .fz (.int a), .fz (.int pre.length), .fz (.int s)] = .next [s0, .fz r, .fz (.int (a * s + x)), .fz (.int pre.length), .fz (.int s)] := by
      have e1 : xBin .Add (xBin .Mult (xVar 2) (xVar 4)) (xIx (xVar 1) (xVar 3)) [s0, .fz r, .fz (.int a), .fz (.int pre.length), .fz (.int s)] = .ok (.va (.int (a * s + x)) false) [s0, .fz r, .fz (.int a), .fz (.int pre.length), .fz (.int s)] := by
        simp [xBin, ei, xVar, Rs.bind, Rs.of, deref, binD, binI, g]
      unfold numB sCons sSet
      rw [e1]
      rfl
    show (match agT [3, 4] (.tup [.int pre.length, .int s]) [s0, .fz r, .fz (.int a), s3, s4] with
      | none => Rf.stuck
      | some ρ1 => (match numB ρ1 with
        | .next ρ2 => loopF (agT [3, 4]) numB (enF (pre.length + 1) ss) ρ2
        | .cnt ρ2 => loopF (agT [3, 4]) numB (enF (pre.length + 1) ss) ρ2
        | .brk ρ2 => .next ρ2
        | r => r)) = _
    rw [ea]
    simp only [eb]
    exact ih
theorem seq_exc {a b : XS} {ρ ρ1 : Ro} {c : Str} {fs : List (Str × D)} (h : a ρ = .exc c fs ρ1) : sCons a b ρ = .exc c fs ρ1 := by
  unfold sCons
  rw [h]
theorem mk_nf (r : D) : prg.tab.mkx (Str.ofString "NoFilling") [r] = some [(Str.ofString "thing", r)] := rfl
def rowOf : D → List D
  | .tup es => es
  | .lst es => es
  | _ => []
theorem isFr_row {ss : List Int} {r : D} (h : isFr ss r = true) : IsRow r (rowOf r) ∧ (rowOf r).length = ss.length ∧ allW ss (rowOf r) = true := by
  cases r with
  | tup es =>
    have h' : isF ss es = true := h
    rw [isF_eq, Bool.and_eq_true] at h'
    exact ⟨.inl rfl, of_decide_eq_true h'.1, h'.2⟩
  | lst es =>
    have h' : isF ss es = true := h
    rw [isF_eq, Bool.and_eq_true] at h'
    exact ⟨.inr rfl, of_decide_eq_true h'.1, h'.2⟩
  | _ => cases h
theorem c_fnum (k : Nat) {ss : List Int} (ok : SOk ss) {r : D} (hr : okRow r) : (Mk (k + 4)).call "filling_number" [S0 ss, .fz r] = if isFr ss r then .ret (.int (numb ss (rowOf r) 0)) false [S0 ss, .fz r] else .exc (Str.ofString "NoFilling") [(Str.ofString "thing", r)] [S0 ss, .fz r] := by
  rw [call_eq (k := k + 3) (e := e_filling_number) rfl (mo_filling_number (k + 3)) rfl rfl]
  have e1 := c_isfil k (ss := ss) hr
  have hl := ok.l
  have em : m_filling_number (Mk (k + 3)).call = (sCons (sIf (VE.tNot (tE (xOwn ((Mk (k + 3)).call "is_filling") [] (xACons (xVar 0) (xACons (xVar 1) xANil))))) (sCons (sRaise "NoFilling" (LawP.prg.tab.mkx "NoFilling") (xCons (xVar 1) xNil)) sNil) sNil) (sCons (sSet 2 (xC (.int (0)))) (sCons (sFor (VE.iEnu (xVar 0)) (agT [3, 4]) numB) (sCons (sRet (xVar 2)) sNil)))) := rfl
  rw [em]
  generalize (Mk (k + 3)).call = C at e1
  have ex : xOwn (C "is_filling") [] (xACons (xVar 0) (xACons (xVar 1) xANil)) [S0 ss, .fz r, .un, .un, .un] = .ok (.va (.bl (isFr ss r)) false) [S0 ss, .fz r, .un, .un, .un] := xOwn_ok (bs := [.at 0, .va r false]) rfl rfl e1 rfl
  show endF _ (sCons _ _ [S0 ss, .fz r, .un, .un, .un]) = _
  by_cases h : isFr ss r = true
  · rw [if_pos h]
    rw [h] at ex
    obtain ⟨hro, hlen, hw⟩ := isFr_row h
    have c1 : sIf (VE.tNot (tE (xOwn (C "is_filling") [] (xACons (xVar 0) (xACons (xVar 1) xANil))))) (sCons (sRaise "NoFilling" (LawP.prg.tab.mkx "NoFilling") (xCons (xVar 1) xNil)) sNil) sNil [S0 ss, .fz r, .un, .un, .un] = .next [S0 ss, .fz r, .un, .un, .un] := by
      unfold sIf VE.tNot tE
      rw [ex]
      rfl
    rw [seq_next c1]
    rw [seq_next (a := sSet 2 (xC (.int (0)))) (ρ := [S0 ss, .fz r, .un, .un, .un]) (ρ1 := [S0 ss, .fz r, .fz (.int 0), .un, .un]) rfl]
    obtain ⟨s3', s4', el⟩ := num_loop (s0 := .ow .lck (.lst (IL ss))) hro ss (rowOf r) [] 0 1 .un .un rfl rfl rfl hlen hw ok.b (by decide) (by decide) (by omega)
    have ef : sFor (VE.iEnu (xVar 0)) (agT [3, 4]) numB [S0 ss, .fz r, .fz (.int 0), .un, .un] = .next [S0 ss, .fz r, .fz (.int (numb ss (rowOf r) 0)), s3', s4'] := by
      have ei : VE.iEnu (xVar 0) [S0 ss, .fz r, .fz (.int 0), .un, .un] = .ok (enF 0 ss, [(0, .par)]) [S0 ss, .fz r, .fz (.int 0), .un, .un] := by
        rw [← enum_eq]
        rfl
      unfold sFor
      rw [ei]
      exact congrArg (Rf.map (unlockAll [(0, .par)])) el
    rw [seq_next ef]
    rfl
  · have h' : isFr ss r = false := by simpa using h
    rw [if_neg h]
    rw [h'] at ex
    have c1 : sIf (VE.tNot (tE (xOwn (C "is_filling") [] (xACons (xVar 0) (xACons (xVar 1) xANil))))) (sCons (sRaise "NoFilling" (LawP.prg.tab.mkx "NoFilling") (xCons (xVar 1) xNil)) sNil) sNil [S0 ss, .fz r, .un, .un, .un] = .exc (Str.ofString "NoFilling") [(Str.ofString "thing", r)] [S0 ss, .fz r, .un, .un, .un] := by
      unfold sIf VE.tNot tE
      rw [ex]
      rfl
    rw [seq_exc c1]
    rfl
theorem isx_nf : prg.tab.isx (Str.ofString "NoFilling") (Str.ofString "NoFilling") = some true := rfl
theorem fok_nf : prg.tab.fok (Str.ofString "NoFilling") (Str.ofString "thing") = true := rfl
/-- what a try gives -/
theorem try_exc {C : Str → List Sl → Cr} {f : Str} {s0 : Sl} {r : D} (hC : xOwn (C f) [] (xACons (xVar 0) (xACons (xVar 1) xANil)) [s0, .fz r, .un, .un] = .exc (Str.ofString "NoFilling") [(Str.ofString "thing", r)] [s0, .fz r, .un, .un]) :
    sTry (fun x => LawP.prg.tab.isx x "NoFilling") 2 (sCons (sSet 3 (xOwn (C f) [] (xACons (xVar 0) (xACons (xVar 1) xANil)))) sNil) (qSet 3 (qLst (qCons (qFld LawP.prg.tab.fok "thing") qNil))) [s0, .fz r, .un, .un] = .next [s0, .fz r, .un, .fz (.lst [r])] := by
  unfold sTry sCons sSet
  rw [hC]
  rfl
theorem try_ret {C : Str → List Sl → Cr} {f : Str} {s0 : Sl} {r d : D} (hC : xOwn (C f) [] (xACons (xVar 0) (xACons (xVar 1) xANil)) [s0, .fz r, .un, .un] = .ok (.va d false) [s0, .fz r, .un, .un]) :
    sTry (fun x => LawP.prg.tab.isx x "NoFilling") 2 (sCons (sSet 3 (xOwn (C f) [] (xACons (xVar 0) (xACons (xVar 1) xANil)))) sNil) (qSet 3 (qLst (qCons (qFld LawP.prg.tab.fok "thing") qNil))) [s0, .fz r, .un, .un] = .next [s0, .fz r, .un, .fz d] := by
  unfold sTry sCons sSet
  rw [hC]
  rfl
theorem xOwn_exc {C : List Sl → Cr} {ds : List D} {args : XA} {ρ ρ1 ρ2 : Ro} {bs : List Bv} {sls as : List Sl} {c : Str} {fs : List (Str × D)} (h1 : args ρ = .ok bs ρ1) (h2 : lend ρ1 bs = some sls) (h3 : C (sls ++ ds.map .fz) = .exc c fs as) (h4 : giveBack bs as ρ1 = ρ2) : xOwn C ds args ρ = .exc c fs ρ2 := by
  unfold xOwn
  rw [h1]
  simp only [Rs.bind]
  rw [h2]
  simp only [h3, h4]
/-- what _law_its_number tells -/
def itsN (ss : List Int) (r : D) : D := if isFr ss r then .int (numb ss (rowOf r) 0) else .lst [r]
theorem c_its (k : Nat) {ss : List Int} (ok : SOk ss) {r : D} (hr : okRow r) : (Mk (k + 5)).call "_law_its_number" [S0 ss, .fz r] = .ret (itsN ss r) false [S0 ss, .fz r] := by
  rw [call_eq (k := k + 4) (e := e__law_its_number) rfl (mo__law_its_number (k + 4)) rfl rfl]
  have e1 := c_fnum k ok hr
  have em : m__law_its_number (Mk (k + 4)).call = (sCons (sTry (fun x => LawP.prg.tab.isx x "NoFilling") 2 (sCons (sSet 3 (xOwn ((Mk (k + 4)).call "filling_number") [] (xACons (xVar 0) (xACons (xVar 1) xANil)))) sNil) (qSet 3 (qLst (qCons (qFld LawP.prg.tab.fok "thing") qNil)))) (sCons (sRet (xVar 3)) sNil)) := rfl
  rw [em]
  generalize (Mk (k + 4)).call = C at e1
  show endF _ (sCons _ _ [S0 ss, .fz r, .un, .un]) = _
  by_cases h : isFr ss r = true
  · rw [if_pos h] at e1
    have ex : xOwn (C "filling_number") [] (xACons (xVar 0) (xACons (xVar 1) xANil)) [S0 ss, .fz r, .un, .un] = .ok (.va (.int (numb ss (rowOf r) 0)) false) [S0 ss, .fz r, .un, .un] := xOwn_ok (bs := [.at 0, .va r false]) rfl rfl e1 rfl
    rw [seq_next (try_ret ex), itsN, if_pos h]
    rfl
  · rw [if_neg h] at e1
    have ex : xOwn (C "filling_number") [] (xACons (xVar 0) (xACons (xVar 1) xANil)) [S0 ss, .fz r, .un, .un] = .exc (Str.ofString "NoFilling") [(Str.ofString "thing", r)] [S0 ss, .fz r, .un, .un] := xOwn_exc (bs := [.at 0, .va r false]) rfl rfl e1 rfl
    rw [seq_next (try_exc ex), itsN, if_neg h]
    rfl
/-- what _law_by_number tells -/
def byN (ss : List Int) (d : D) : D := match d with
  | .int n => if 0 ≤ n ∧ n ≤ prod ss 1 - 1 then .tup (IL (fil ss n)) else .lst [d]
  | d => .lst [d]
theorem c_fby (k : Nat) {s0 : Sl} {ss : List Int} (hz : Sz s0 ss) (ok : SOk ss) {d : D} (hd : kd d = true) : (Mk (k + 2)).call "filling_by_number" [s0, .fz d] = match byN ss d with
    | .tup es => .ret (.tup es) false [s0, .fz d]
    | _ => .exc (Str.ofString "NoFilling") [(Str.ofString "thing", d)] [s0, .fz d] := by
  rw [call_eq (k := k + 1) (e := e_filling_by_number) rfl (mo_filling_by_number (k + 1)) rfl (by
    show (parOk s0 && (parOk (.fz d) && true)) = true
    rw [hz.par]
    rfl)]
  have e1 := c_count k hz ok
  have e2 := c_is_whole k (d := d) (l := 0) (h := prod ss 1 - 1) hd
  have e3 := fun n => c_fill k hz ok n
  have em : m_filling_by_number (Mk (k + 1)).call = (sCons (sIf (VE.tNot (tE (xOwn ((Mk (k + 1)).call "is_whole") [] (xACons (xVar 1) (xACons (xC (.int (0))) (xACons (xBin .Sub (xOwn ((Mk (k + 1)).call "count_fillings") [] (xACons (xVar 0) xANil)) (xC (.int (1)))) xANil)))))) (sCons (sRaise "NoFilling" (LawP.prg.tab.mkx "NoFilling") (xCons (xVar 1) xNil)) sNil) sNil) (sCons (sRet (xOwn ((Mk (k + 1)).call "filling_at") [] (xACons (xVar 0) (xACons (xVar 1) xANil)))) sNil)) := rfl
  rw [em]
  generalize (Mk (k + 1)).call = C at e1 e2 e3
  show endF _ (sCons _ _ [s0, .fz d]) = _
  have x1 : xOwn (C "count_fillings") [] (xACons (xVar 0) xANil) [s0, .fz d] = .ok (.va (.int (prod ss 1)) false) [s0, .fz d] := by
    rcases hz with rfl | rfl | rfl
    · exact xOwn_ok (bs := [.at 0]) rfl rfl e1 rfl
    · exact xOwn_ok (bs := [.va (.lst (IL ss)) false]) rfl rfl e1 rfl
    · exact xOwn_ok (bs := [.va (.tup (IL ss)) false]) rfl rfl e1 rfl
  have x2 : xOwn (C "is_whole") [] (xACons (xVar 1) (xACons (xC (.int (0))) (xACons (xBin .Sub (xOwn (C "count_fillings") [] (xACons (xVar 0) xANil)) (xC (.int (1)))) xANil))) [s0, .fz d] = .ok (.va (.bl (wh d 0 (prod ss 1 - 1))) false) [s0, .fz d] := by
    refine xOwn_ok (bs := [.va d false, .va (.int 0) false, .va (.int (prod ss 1 - 1)) false]) ?_ rfl e2 (give_no rfl)
    simp [xACons, xANil, xBin, x1, Rs.bind, xC, xVar, Rs.of, deref, binD, binI]
  by_cases h : wh d 0 (prod ss 1 - 1) = true
  · rw [h] at x2
    cases d with
    | int n =>
      simp only [wh, Bool.and_eq_true, decide_eq_true_eq] at h
      have c1 : sIf (VE.tNot (tE (xOwn (C "is_whole") [] (xACons (xVar 1) (xACons (xC (.int (0))) (xACons (xBin .Sub (xOwn (C "count_fillings") [] (xACons (xVar 0) xANil)) (xC (.int (1)))) xANil)))))) (sCons (sRaise "NoFilling" (LawP.prg.tab.mkx "NoFilling") (xCons (xVar 1) xNil)) sNil) sNil [s0, .fz (.int n)] = .next [s0, .fz (.int n)] := by
        unfold sIf VE.tNot tE
        rw [x2]
        rfl
      have x3 : xOwn (C "filling_at") [] (xACons (xVar 0) (xACons (xVar 1) xANil)) [s0, .fz (.int n)] = .ok (.va (.tup (IL (fil ss n))) false) [s0, .fz (.int n)] := by
        rcases hz with rfl | rfl | rfl
        · exact xOwn_ok (bs := [.at 0, .va (.int n) false]) rfl rfl (e3 n) rfl
        · exact xOwn_ok (bs := [.va (.lst (IL ss)) false, .va (.int n) false]) rfl rfl (e3 n) rfl
        · exact xOwn_ok (bs := [.va (.tup (IL ss)) false, .va (.int n) false]) rfl rfl (e3 n) rfl
      rw [seq_next c1]
      have er : sRet (xOwn (C "filling_at") [] (xACons (xVar 0) (xACons (xVar 1) xANil))) [s0, .fz (.int n)] = .ret (.va (.tup (IL (fil ss n))) false) [s0, .fz (.int n)] := by
        unfold sRet
        rw [x3]
        rfl
      have eb : byN ss (.int n) = .tup (IL (fil ss n)) := if_pos h
      rw [seq_ret er, eb]
      rcases hz with rfl | rfl | rfl <;> rfl
    | _ => cases h
  · have h' : wh d 0 (prod ss 1 - 1) = false := by simpa using h
    rw [h'] at x2
    have c1 : sIf (VE.tNot (tE (xOwn (C "is_whole") [] (xACons (xVar 1) (xACons (xC (.int (0))) (xACons (xBin .Sub (xOwn (C "count_fillings") [] (xACons (xVar 0) xANil)) (xC (.int (1)))) xANil)))))) (sCons (sRaise "NoFilling" (LawP.prg.tab.mkx "NoFilling") (xCons (xVar 1) xNil)) sNil) sNil [s0, .fz d] = .exc (Str.ofString "NoFilling") [(Str.ofString "thing", d)] [s0, .fz d] := by
      unfold sIf VE.tNot tE
      rw [x2]
      rfl
    have eb : byN ss d = .lst [d] := by
      cases d with
      | int n =>
        have h2 : ¬ (0 ≤ n ∧ n ≤ prod ss 1 - 1) := fun z => h (by simp [wh, z.1, z.2])
        exact if_neg h2
      | _ => rfl
    rw [eb]
    rw [seq_exc c1]
    rcases hz with rfl | rfl | rfl <;> rfl
theorem c_by (k : Nat) {s0 : Sl} {ss : List Int} (hz : Sz s0 ss) (ok : SOk ss) {d : D} (hd : kd d = true) : (Mk (k + 3)).call "_law_by_number" [s0, .fz d] = .ret (byN ss d) false [s0, .fz d] := by
  rw [call_eq (k := k + 2) (e := e__law_by_number) rfl (mo__law_by_number (k + 2)) rfl (by
    show (parOk s0 && (parOk (.fz d) && true)) = true
    rw [hz.par]
    rfl)]
  have e1 := c_fby k hz ok hd
  have em : m__law_by_number (Mk (k + 2)).call = (sCons (sTry (fun x => LawP.prg.tab.isx x "NoFilling") 2 (sCons (sSet 3 (xOwn ((Mk (k + 2)).call "filling_by_number") [] (xACons (xVar 0) (xACons (xVar 1) xANil)))) sNil) (qSet 3 (qLst (qCons (qFld LawP.prg.tab.fok "thing") qNil)))) (sCons (sRet (xVar 3)) sNil)) := rfl
  rw [em]
  generalize (Mk (k + 2)).call = C at e1
  show endF _ (sCons _ _ [s0, .fz d, .un, .un]) = _
  have two : (∃ es, byN ss d = .tup es) ∨ byN ss d = .lst [d] := by
    cases d with
    | int n =>
      by_cases h : 0 ≤ n ∧ n ≤ prod ss 1 - 1
      · exact .inl ⟨_, if_pos h⟩
      · exact .inr (if_neg h)
    | _ => exact .inr rfl
  rcases two with ⟨es, h⟩ | h
  · rw [h] at e1 ⊢
    have ex : xOwn (C "filling_by_number") [] (xACons (xVar 0) (xACons (xVar 1) xANil)) [s0, .fz d, .un, .un] = .ok (.va (.tup es) false) [s0, .fz d, .un, .un] := by
      rcases hz with rfl | rfl | rfl
      · exact xOwn_ok (bs := [.at 0, .va d false]) rfl rfl e1 rfl
      · exact xOwn_ok (bs := [.va (.lst (IL ss)) false, .va d false]) rfl rfl e1 rfl
      · exact xOwn_ok (bs := [.va (.tup (IL ss)) false, .va d false]) rfl rfl e1 rfl
    rw [seq_next (try_ret ex)]
    rcases hz with rfl | rfl | rfl <;> rfl
  · rw [h] at e1 ⊢
    have ex : xOwn (C "filling_by_number") [] (xACons (xVar 0) (xACons (xVar 1) xANil)) [s0, .fz d, .un, .un] = .exc (Str.ofString "NoFilling") [(Str.ofString "thing", d)] [s0, .fz d, .un, .un] := by
      rcases hz with rfl | rfl | rfl
      · exact xOwn_exc (bs := [.at 0, .va d false]) rfl rfl e1 rfl
      · exact xOwn_exc (bs := [.va (.lst (IL ss)) false, .va d false]) rfl rfl e1 rfl
      · exact xOwn_exc (bs := [.va (.tup (IL ss)) false, .va d false]) rfl rfl e1 rfl
    rw [seq_next (try_exc ex)]
    rcases hz with rfl | rfl | rfl <;> rfl
end LawP
end

section
set_option Elab.async false
set_option linter.all false
set_option maxRecDepth 100000
set_option maxHeartbeats 4000000
namespace LawP
open PySem PySem.Spec L2 VE

def lnumB : XS := (sCons (sSet 2 (xBin .Add (xBin .Mult (xVar 2) (xIx (xVar 0) (xVar 3))) (xIx (xVar 1) (xVar 3)))) sNil)
theorem lnum_loop {sal : List Int} {r : D} {all : List D} (hr : IsRow r all) : ∀ (ss : List Int) (es pre : List D) (spre : List Int) (a : Int) (n : Nat) (s3 : Sl), all = pre ++ es → sal = spre ++ ss → spre.length = pre.length → Ms s3 → es.length = ss.length → allW ss es = true → (∀ x ∈ ss, 0 < x ∧ x ≤ 40) → a.natAbs < 2 ^ n → 0 < n → n + 7 * ss.length ≤ 1000 →
    ∃ s3', loopF (agI 3) lnumB (rngD pre.length ss.length) [S0 sal, .fz r, .fz (.int a), s3] = .next [S0 sal, .fz r, .fz (.int (numb ss es a)), s3']
  | [], [], pre, spre, a, n, s3, _, _, _, _, _, _, _, _, _, _ => ⟨s3, by simp [rngD, loopF, numb]⟩
  | [], _ :: _, _, _, _, _, _, _, _, _, _, h, _, _, _, _, _ => by cases h
  | _ :: _, [], _, _, _, _, _, _, _, _, _, h, _, _, _, _, _ => by cases h
  | s :: ss, e :: es, pre, spre, a, n, s3, ha, hs', hp, m3, hl, hw, hb, hn, hn0, hz => by
    have hz' : n + 7 * (ss.length + 1) ≤ 1000 := hz
    obtain ⟨w1, w2⟩ := Bool.and_eq_true_iff.mp (show (wh e 0 (s - 1) && allW ss es) = true from hw)
    obtain ⟨x, rfl, x0, x1⟩ := wh_int w1
    have hs := hb s List.mem_cons_self
    have g : mulOk a s = true := mulOk_of n 6 hn (by omega) hn0 (by decide) (by omega)
    have hix : ixD r (.int (pre.length : Int)) = some (.int x) := row_ix (by rw [← ha]; exact hr)
    have hsx : L2.atI (IL sal) (pre.length : Int) = some (.int s) := by
      rw [hs']
      show L2.atI ((spre ++ s :: ss).map D.int) _ = _
      rw [List.map_append, List.map_cons]
      exact atI_mid _ _ _ _ (by simp [hp])
    have ha2 : all = (pre ++ [.int x]) ++ es := by rw [ha]; simp
    have hs2 : sal = (spre ++ [s]) ++ ss := by rw [hs']; simp
    have hpl : (pre ++ [D.int x]).length = pre.length + 1 := by simp
    obtain ⟨s3', ih⟩ := lnum_loop hr ss es (pre ++ [.int x]) (spre ++ [s]) (a * s + x) (n + 7) (.fz (.int pre.length)) ha2 hs2 (by simp [hp]) rfl (by simpa using hl) w2 (fun y hy => hb y (List.mem_cons_of_mem _ hy)) (num_bits hn hs ⟨x0, x1⟩) (by omega) (by omega)
    rw [hpl] at ih
    refine ⟨s3', ?_⟩
    have ea : agI 3 (.int pre.length) [S0 sal, .fz r, .fz (.int a), s3] = some [S0 sal, .fz r, .fz (.int a), .fz (.int pre.length)] := by
      unfold agI VE.stI
      exact if_pos m3
    have e0 : xIx (xVar 1) (xVar 3) [S0 sal, .fz r, .fz (.int a), .fz (.int pre.length)] = .ok (.va (.int x) false) [S0 sal, .fz r, .fz (.int a), .fz (.int pre.length)] := by
      simp [xIx, xVar, Rs.bind, Rs.of, deref, hix]
    have e1 : xIx (xVar 0) (xVar 3) [S0 sal, .fz r, .fz (.int a), .fz (.int pre.length)] = .ok (.va (.int s) false) [S0 sal, .fz r, .fz (.int a), .fz (.int pre.length)] := by
      simp [xIx, xVar, Rs.bind, Rs.of, deref, getSl, ixD, hsx]
    have eb : lnumB [S0 sal, .fz r, .fz (.int a), .fz (.int pre.length)] = .next [S0 sal, .fz r, .fz (.int (a * s + x)), .fz (.int pre.length)] := by
      have e2 : xBin .Add (xBin .Mult (xVar 2) (xIx (xVar 0) (xVar 3))) (xIx (xVar 1) (xVar 3)) [S0 sal, .fz r, .fz (.int a), .fz (.int pre.length)] = .ok (.va (.int (a * s + x)) false) [S0 sal, .fz r, .fz (.int a), .fz (.int pre.length)] := by
        simp [xBin, e0, e1, xVar, Rs.bind, Rs.of, deref, binD, binI, g]
      unfold lnumB sCons sSet
      rw [e2]
      rfl
    have er : rngD (pre.length : Int) (s :: ss).length = .int pre.length :: rngD ((pre.length + 1 : Nat) : Int) ss.length := by
      rw [List.length_cons, rng_succ]
      rfl
    rw [er]
    show (match agI 3 (.int pre.length) [S0 sal, .fz r, .fz (.int a), s3] with
      | none => Rf.stuck
      | some ρ1 => (match lnumB ρ1 with
        | .next ρ2 => loopF (agI 3) lnumB (rngD ((pre.length + 1 : Nat) : Int) ss.length) ρ2
        | .cnt ρ2 => loopF (agI 3) lnumB (rngD ((pre.length + 1 : Nat) : Int) ss.length) ρ2
        | .brk ρ2 => .next ρ2
        | r => r)) = _
    rw [ea]
    simp only [eb]
    exact ih
theorem c_lnum (k : Nat) {ss : List Int} (ok : SOk ss) {r : D} (h : isFr ss r = true) : (Mk (k + 1)).call "_law_number" [S0 ss, .fz r] = .ret (.int (numb ss (rowOf r) 0)) false [S0 ss, .fz r] := by
  rw [call_eq (e := e__law_number) rfl (mo__law_number k) rfl rfl]
  have hl := ok.l
  obtain ⟨hro, hlen, hw⟩ := isFr_row h
  have em : m__law_number (Mk k).call = (sCons (sSet 2 (xC (.int (0)))) (sCons (sFor (VE.iRng1 (xBi "len" (xACons (xVar 0) xANil))) (agI 3) lnumB) (sCons (sRet (xVar 2)) sNil))) := rfl
  rw [em]
  show endF _ (sCons _ _ [S0 ss, .fz r, .un, .un]) = _
  rw [seq_next (a := sSet 2 (xC (.int (0)))) (ρ := [S0 ss, .fz r, .un, .un]) (ρ1 := [S0 ss, .fz r, .fz (.int 0), .un]) rfl]
  obtain ⟨s3', el⟩ := lnum_loop (sal := ss) hro ss (rowOf r) [] [] 0 1 .un rfl rfl rfl rfl hlen hw ok.b (by decide) (by decide) (by omega)
  have e2 : xBi "len" (xACons (xVar 0) xANil) [S0 ss, .fz r, .fz (.int 0), .un] = .ok (.va (.int ss.length) false) [S0 ss, .fz r, .fz (.int 0), .un] := by
    simp [xBi, xACons, xANil, xVar, Rs.bind, Rs.of, deref, getSl, bi_len]
  have ei := rng1_ok (a := xBi "len" (xACons (xVar 0) xANil)) (N := ss.length) e2 (small_of (by omega) (by omega))
  rw [Int.toNat_natCast] at ei
  have ef : sFor (VE.iRng1 (xBi "len" (xACons (xVar 0) xANil))) (agI 3) lnumB [S0 ss, .fz r, .fz (.int 0), .un] = .next [S0 ss, .fz r, .fz (.int (numb ss (rowOf r) 0)), s3'] := by
    unfold sFor
    rw [ei]
    exact congrArg (Rf.map (unlockAll [])) el
  rw [seq_next ef]
  rfl
/-! ### plain things -/
theorem eqv_str (x : Str) : (x == x) = true := by simp
theorem cm_es {s : Str} : cmpD .Eq (.str s) (.str s) = some true := by
  have : cmpD .Eq (.str s) (.str s) = some (s == s) := rfl
  rw [this, eqv_str]
/-- an entry of a spoilt row -/
def el : D → Bool
  | .non => true
  | .bl _ => true
  | .int _ => true
  | .str _ => true
  | .tup [.int _] => true
  | _ => false
theorem el_kd {d : D} (h : el d = true) : kd d = true := by
  cases d <;> first | rfl | cases h
theorem el_eqv {d : D} (h : el d = true) : PyData.eqv (toPy d) (toPy d) = true ∧ plainD d = true ∧ (toPy d).depth ≤ 2 := by
  cases d with
  | non => exact ⟨rfl, rfl, by decide⟩
  | bl b => exact ⟨by cases b <;> rfl, rfl, Nat.zero_le _⟩
  | int i => exact ⟨by show (i == i) = true; simp, rfl, Nat.zero_le _⟩
  | str s => exact ⟨eqv_str s, rfl, Nat.zero_le _⟩
  | tup xs =>
    match xs, h with
    | [.int i], _ =>
      refine ⟨?_, rfl, ?_⟩
      · show ((i == i) && true) = true
        simp
      · simp [toPy, toPys, PyData.depth, PyData.depthAll]
  | _ => cases h
theorem els_eqv : ∀ {es : List D}, (∀ e ∈ es, el e = true) → PyData.eqvAll (toPys es) (toPys es) = true ∧ plainDs es = true ∧ PyData.depthAll (toPys es) ≤ 2
  | [], _ => ⟨rfl, rfl, by simp [toPys, PyData.depthAll]⟩
  | e :: es, h => by
    obtain ⟨a1, a2, a3⟩ := el_eqv (h e List.mem_cons_self)
    obtain ⟨b1, b2, b3⟩ := els_eqv fun x hx => h x (List.mem_cons_of_mem _ hx)
    refine ⟨?_, ?_, ?_⟩
    · show (PyData.eqv (toPy e) (toPy e) && PyData.eqvAll (toPys es) (toPys es)) = true
      rw [a1, b1]
      rfl
    · show (plainD e && plainDs es) = true
      rw [a2, b2]
      rfl
    · simp only [toPys, PyData.depthAll]
      omega
theorem els_eq {es : List D} (h : ∀ e ∈ es, el e = true) : cmpD .Eq (.lst es) (.lst es) = some true := by
  obtain ⟨b1, b2, b3⟩ := els_eqv h
  have e1 : eqOk (.lst es) (.lst es) = true := by
    simp only [eqOk, plainD, b2, toPy, PyData.depth, Bool.true_and, decide_eq_true_eq]
    omega
  have e2 : eqD (.lst es) (.lst es) = true := b1
  show (if eqOk (.lst es) (.lst es) then some (eqD (.lst es) (.lst es)) else _) = _
  rw [if_pos e1, e2]
theorem good_el {d : D} (h : el d = true) : good d := by
  cases d with
  | non => rfl
  | bl b => cases b <;> rfl
  | int i =>
    show cmpD .Eq (.int i) (.int i) = some true
    rw [cm_eq]
    simp
  | str s => exact cm_es
  | tup xs =>
    match xs, h with
    | [.int i], _ => exact els_eq (es := [.int i]) fun e he => by rw [List.mem_singleton.mp he]; rfl
  | _ => cases h
/-- a row that is no filling, or one -/
structure Row (r : D) : Prop where
  ok : okRow r
  g : good r
theorem row_tup {es : List D} (h : ∀ e ∈ es, el e = true) : Row (.tup es) := ⟨fun e he => el_kd (h e he), els_eq h⟩
theorem row_lst {es : List D} (h : ∀ e ∈ es, el e = true) : Row (.lst es) := ⟨fun e he => el_kd (h e he), els_eq h⟩
end LawP
end

section
set_option Elab.async false
set_option linter.all false
set_option maxRecDepth 100000
set_option maxHeartbeats 4000000
namespace LawP
open PySem PySem.Spec L2 VE

theorem at_mem {L : List D} {r : Int} (h0 : 0 ≤ r) (h1 : r < L.length) : ∃ d, d ∈ L ∧ L2.atI L r = some d := by
  have h : r.toNat < L.length := by omega
  refine ⟨L[r.toNat], List.getElem_mem h, ?_⟩
  unfold L2.atI ixN
  rw [if_pos h0, if_pos h1]
  simp [h]
theorem xIx_tup {a s : XE} {ρ ρ1 ρ2 : Ro} {L : List D} {r : Int} {d : D} (h1 : a ρ = .ok (.va (.tup L) false) ρ1) (h2 : s ρ1 = .ok (.va (.int r) false) ρ2) (h3 : L2.atI L r = some d) : xIx a s ρ = .ok (.va d false) ρ2 := by
  unfold xIx
  rw [h1]
  simp only [Rs.bind]
  rw [h2]
  simp only [deref, Option.bind_some, ixD, h3, Option.map_some, Rs.of]
theorem sRet_ok {a : XE} {ρ ρ1 : Ro} {b : Bv} (h : a ρ = .ok b ρ1) : sRet a ρ = .ret b ρ1 := by
  unfold sRet
  rw [h]
  rfl
theorem sSet_ok {a : XE} {i : Nat} {ρ ρ1 ρ2 : Ro} {b : Bv} (h : a ρ = .ok b ρ1) (h2 : putI i b ρ1 = .next ρ2) : sSet i a ρ = .next ρ2 := by
  unfold sSet
  rw [h]
  exact h2
theorem sIf_t {c : XT} {a b : XS} {ρ ρ1 : Ro} (h : c ρ = .ok true ρ1) : sIf c a b ρ = a ρ1 := by
  unfold sIf
  rw [h]
  rfl
theorem sIf_f {c : XT} {a b : XS} {ρ ρ1 : Ro} (h : c ρ = .ok false ρ1) : sIf c a b ρ = b ρ1 := by
  unfold sIf
  rw [h]
  rfl
theorem sIf_skip {c : XT} {a : XS} {ρ ρ1 : Ro} (h : c ρ = .ok false ρ1) : sIf c a sNil ρ = .next ρ1 := sIf_f h
theorem end_ix {a s : XE} {b : XS} {sls : List Sl} {ρ ρ1 ρ2 : Ro} (L : List D) {r : Int} {d : D} (h2 : s ρ1 = .ok (.va (.int r) false) ρ2) (h3 : L2.atI L r = some d) (h1 : a ρ = .ok (.va (.tup L) false) ρ1) : endF sls (sCons (sRet (xIx a s)) b ρ) = .ret d false (outS sls ρ2) := by
  rw [seq_ret (sRet_ok (xIx_tup h1 h2 h3))]
  rfl
/-- a thing among names and wires -/
def thB : D → Bool
  | .str z => decide (z.length ≤ 1000)
  | .scr _ => false
  | .obj _ _ => false
  | _ => true
theorem thB_kd {d : D} (h : thB d = true) : kd d = true := by
  cases d <;> first | rfl | cases h
def wtB : D → Bool
  | .tup es => es.all thB
  | .lst es => es.all thB
  | d => thB d
theorem c_noname (k : Nat) {cells : List Int} {pos big tot : Int} (h : HOk cells pos big tot) : ∃ (d : D) (p b t : Int), (Mk (k + 3)).call "_law_no_name" [.ow .par (HD cells pos big tot)] = .ret d false [.ow .par (HD cells p b t)] ∧ HOk cells p b t ∧ thB d = true := by
  rw [call_eq (k := k + 2) (e := e__law_no_name) rfl (mo__law_no_name (k + 2)) rfl rfl]
  obtain ⟨r, p, b, t, e1, r0, r1, h1⟩ := c_take k h (m := 8) (by decide) (by decide)
  obtain ⟨d, hm, hat⟩ := at_mem (L := [.str (PySem.Str.ofString ""), .str (PySem.Str.ofString "A"), .str (PySem.Str.ofString "abcdefghi"), .non, .int 5, .bl true, .tup [.str (PySem.Str.ofString "a")], .str (PySem.Str.ofString "a1")]) r0 r1
  have hall : ([.str (PySem.Str.ofString ""), .str (PySem.Str.ofString "A"), .str (PySem.Str.ofString "abcdefghi"), .non, .int 5, .bl true, .tup [.str (PySem.Str.ofString "a")], .str (PySem.Str.ofString "a1")] : List D).all thB = true := by decide +kernel
  refine ⟨d, p, b, t, ?_, h1, List.all_eq_true.mp hall d hm⟩
  unfold m__law_no_name
  generalize (Mk (k + 2)).call = C at e1 ⊢
  have ex : xOwn (C "_law_take") [] (xACons (xVar 0) (xACons (xC (.int (8))) xANil)) [.ow .par (HD cells pos big tot)] = .ok (.va (.int r) false) [.ow .par (HD cells p b t)] := xOwn_ok (bs := [.at 0, .va (.int 8) false]) rfl rfl e1 rfl
  show endF _ (sCons _ _ [.ow .par (HD cells pos big tot)]) = _
  exact (end_ix _ ex hat rfl).trans rfl
def noWires : List D := [.tup [.str (PySem.Str.ofString ""), .int 2], .tup [.str (PySem.Str.ofString "abcdefghi"), .int 2], .tup [.str (PySem.Str.ofString "A"), .int 2], .tup [.str (PySem.Str.ofString "a"), .int 1], .tup [.str (PySem.Str.ofString "a"), .int 5], .tup [.str (PySem.Str.ofString "a"), .bl true], .tup [.str (PySem.Str.ofString "a")], .tup [.str (PySem.Str.ofString "a"), .int 2, .int 3], .str (PySem.Str.ofString "ab"), .lst [.str (PySem.Str.ofString "a"), .str (PySem.Str.ofString "2")], .non, .int 5, .tup [.int 1, .int 2]]
theorem c_nowire (k : Nat) {cells : List Int} {pos big tot : Int} (h : HOk cells pos big tot) : ∃ (d : D) (p b t : Int), (Mk (k + 3)).call "_law_no_wire" [.ow .par (HD cells pos big tot)] = .ret d false [.ow .par (HD cells p b t)] ∧ HOk cells p b t ∧ wtB d = true := by
  rw [call_eq (k := k + 2) (e := e__law_no_wire) rfl (mo__law_no_wire (k + 2)) rfl rfl]
  obtain ⟨r, p, b, t, e1, r0, r1, h1⟩ := c_take k h (m := 13) (by decide) (by decide)
  obtain ⟨d, hm, hat⟩ := at_mem (L := noWires) r0 r1
  have hall : noWires.all wtB = true := by decide +kernel
  refine ⟨d, p, b, t, ?_, h1, List.all_eq_true.mp hall d hm⟩
  unfold m__law_no_wire
  generalize (Mk (k + 2)).call = C at e1 ⊢
  have ex : xOwn (C "_law_take") [] (xACons (xVar 0) (xACons (xC (.int (13))) xANil)) [.ow .par (HD cells pos big tot)] = .ok (.va (.int r) false) [.ow .par (HD cells p b t)] := xOwn_ok (bs := [.at 0, .va (.int 13) false]) rfl rfl e1 rfl
  show endF _ (sCons _ _ [.ow .par (HD cells pos big tot)]) = _
  exact (end_ix noWires ex hat rfl).trans rfl
def rids : List D := [.non, .int 3, .str (PySem.Str.ofString "ab"), .bl true, .dic 0 1, .int (-1)]
theorem rid_row : ∀ d ∈ rids, Row d := by
  intro d hd
  simp only [rids, List.mem_cons, List.not_mem_nil, or_false] at hd
  rcases hd with rfl | rfl | rfl | rfl | rfl | rfl
  · exact ⟨rfl, rfl⟩
  · exact ⟨rfl, good_el rfl⟩
  · exact ⟨rfl, good_el rfl⟩
  · exact ⟨rfl, rfl⟩
  · exact ⟨rfl, rfl⟩
  · exact ⟨rfl, good_el rfl⟩
theorem c_rid (k : Nat) {cells : List Int} {pos big tot : Int} (h : HOk cells pos big tot) : ∃ (d : D) (p b t : Int), (Mk (k + 3)).call "_law_rid" [.ow .par (HD cells pos big tot)] = .ret d false [.ow .par (HD cells p b t)] ∧ HOk cells p b t ∧ Row d := by
  rw [call_eq (k := k + 2) (e := e__law_rid) rfl (mo__law_rid (k + 2)) rfl rfl]
  obtain ⟨r, p, b, t, e1, r0, r1, h1⟩ := c_take k h (m := 6) (by decide) (by decide)
  obtain ⟨d, hm, hat⟩ := at_mem (L := rids) r0 r1
  refine ⟨d, p, b, t, ?_, h1, rid_row d hm⟩
  unfold m__law_rid
  generalize (Mk (k + 2)).call = C at e1 ⊢
  have ex : xOwn (C "_law_take") [] (xACons (xVar 0) (xACons (xC (.int (6))) xANil)) [.ow .par (HD cells pos big tot)] = .ok (.va (.int r) false) [.ow .par (HD cells p b t)] := xOwn_ok (bs := [.at 0, .va (.int 6) false]) rfl rfl e1 rfl
  show endF _ (sCons _ _ [.ow .par (HD cells pos big tot)]) = _
  exact (end_ix rids ex hat rfl).trans rfl
def odds (bd : Int) : List D := [.bl true, .bl false, .non, .str (PySem.Str.ofString "1"), .tup [.int 0], .str (PySem.Str.ofString "00"), .int bd]
theorem odds_el (bd : Int) : ∀ d ∈ odds bd, el d = true := by
  intro d hd
  simp only [odds, List.mem_cons, List.not_mem_nil, or_false] at hd
  rcases hd with rfl | rfl | rfl | rfl | rfl | rfl | rfl <;> rfl
theorem c_lodd (k : Nat) (bd : Int) {cells : List Int} {pos big tot : Int} (h : HOk cells pos big tot) : ∃ (d : D) (p b t : Int), (Mk (k + 3)).call "_law_odd" [.ow .par (HD cells pos big tot), .fz (.int bd)] = .ret d false [.ow .par (HD cells p b t), .fz (.int bd)] ∧ HOk cells p b t ∧ el d = true := by
  rw [call_eq (k := k + 2) (e := e__law_odd) rfl (mo__law_odd (k + 2)) rfl rfl]
  obtain ⟨r, p, b, t, e1, r0, r1, h1⟩ := c_take k h (m := 9) (by decide) (by decide)
  obtain ⟨r', p', b', t', e2, _, _, h2⟩ := c_take k h1 (m := 10 ^ 12) (by decide) (by decide)
  unfold m__law_odd
  generalize (Mk (k + 2)).call = C at e1 e2 ⊢
  have ex : xOwn (C "_law_take") [] (xACons (xVar 0) (xACons (xC (.int (9))) xANil)) [.ow .par (HD cells pos big tot), .fz (.int bd), .un] = .ok (.va (.int r) false) [.ow .par (HD cells p b t), .fz (.int bd), .un] := xOwn_ok (bs := [.at 0, .va (.int 9) false]) rfl rfl e1 rfl
  have ey : xOwn (C "_law_take") [] (xACons (xVar 0) (xACons (xBin .Pow (xC (.int (10))) (xC (.int (12)))) xANil)) [.ow .par (HD cells p b t), .fz (.int bd), .fz (.int r)] = .ok (.va (.int r') false) [.ow .par (HD cells p' b' t'), .fz (.int bd), .fz (.int r)] := xOwn_ok (bs := [.at 0, .va (.int (10 ^ 12)) false]) rfl rfl e2 rfl
  show ∃ d p b t, endF _ (sCons _ _ [.ow .par (HD cells pos big tot), .fz (.int bd), .un]) = _ ∧ _
  rw [seq_next (sSet_ok (ρ2 := [.ow .par (HD cells p b t), .fz (.int bd), .fz (.int r)]) ex rfl)]
  have cmp : ∀ m : Int, tCm (xCmp .Eq (xVar 2) (xC (.int m))) [.ow .par (HD cells p b t), .fz (.int bd), .fz (.int r)] = .ok (decide (r = m)) [.ow .par (HD cells p b t), .fz (.int bd), .fz (.int r)] := fun m => by
    simp [tCm, xCmp, xVar, xC, Rs.bind, Rs.of, deref, cm_eq]
  by_cases z0 : r = 0
  · refine ⟨.int (bd + r'), p', b', t', ?_, h2, rfl⟩
    have c0 := cmp 0
    rw [decide_eq_true z0] at c0
    have er : sRet (xBin .Add (xVar 1) (xOwn (C "_law_take") [] (xACons (xVar 0) (xACons (xBin .Pow (xC (.int (10))) (xC (.int (12)))) xANil)))) [.ow .par (HD cells p b t), .fz (.int bd), .fz (.int r)] = .ret (.va (.int (bd + r')) false) [.ow .par (HD cells p' b' t'), .fz (.int bd), .fz (.int r)] := by
      refine sRet_ok ?_
      simp [xBin, ey, xVar, Rs.bind, Rs.of, deref, binD, binI]
    rw [seq_ret ((sIf_t c0).trans (seq_ret er))]
    rfl
  · have c0 := cmp 0
    rw [decide_eq_false z0] at c0
    rw [seq_next (sIf_skip c0)]
    by_cases z1 : r = 1
    · refine ⟨.int (-1 - r'), p', b', t', ?_, h2, rfl⟩
      have c1 := cmp 1
      rw [decide_eq_true z1] at c1
      have er : sRet (xBin .Sub (xNeg (xC (.int (1)))) (xOwn (C "_law_take") [] (xACons (xVar 0) (xACons (xBin .Pow (xC (.int (10))) (xC (.int (12)))) xANil)))) [.ow .par (HD cells p b t), .fz (.int bd), .fz (.int r)] = .ret (.va (.int (-1 - r')) false) [.ow .par (HD cells p' b' t'), .fz (.int bd), .fz (.int r)] := by
        refine sRet_ok ?_
        simp [xBin, xNeg, xC, ey, Rs.bind, Rs.of, deref, binD, binI]
      rw [seq_ret ((sIf_t c1).trans (seq_ret er))]
      rfl
    · have c1 := cmp 1
      rw [decide_eq_false z1] at c1
      rw [seq_next (sIf_skip c1)]
      obtain ⟨d, hm, hat⟩ := at_mem (L := odds bd) (r := r - 2) (by omega) (by
        show r - 2 < 7
        omega)
      refine ⟨d, p, b, t, ?_, h1, odds_el bd d hm⟩
      have es : xBin .Sub (xVar 2) (xC (.int (2))) [.ow .par (HD cells p b t), .fz (.int bd), .fz (.int r)] = .ok (.va (.int (r - 2)) false) [.ow .par (HD cells p b t), .fz (.int bd), .fz (.int r)] := rfl
      exact (end_ix (odds bd) es hat rfl).trans rfl
end LawP
end

section
set_option Elab.async false
set_option linter.all false
set_option maxRecDepth 100000
set_option maxHeartbeats 4000000
namespace LawP
open PySem PySem.Spec L2 VE

theorem ix_ok' {n : Nat} {i : Int} (h0 : 0 ≤ i) (h1 : i < n) : ixN n i = some i.toNat := by
  unfold ixN
  rw [if_pos h0, if_pos h1]
def spB1 (C : Str → List Sl → Cr) : XS := (sIf (VE.tAnd (tCm (xCmp .Eq (xVar 4) (xC (.int (1))))) (tE (xVar 3))) (sCons (sSet 5 (xOwn (C "_law_take") [] (xACons (xVar 0) (xACons (xBi "len" (xACons (xVar 3) xANil)) xANil)))) (sCons (sSub (xVar 3) (xVar 5) (xOwn (C "_law_odd") [] (xACons (xVar 0) (xACons (xIx (xVar 1) (xVar 5)) xANil)))) sNil)) sNil)
def spB2 : XS := (sIf (VE.tAnd (tCm (xCmp .Eq (xVar 4) (xC (.int (2))))) (tE (xVar 3))) (sCons (sDrop (xPop 3)) sNil) sNil)
def spB3 : XS := (sIf (tCm (xCmp .Eq (xVar 4) (xC (.int (3))))) (sCons (sDrop (xApp 3 (xC (.int (0))))) sNil) sNil)
theorem sp1 (k : Nat) {C : Str → List Sl → Cr} (hC : C = (Mk (k + 3)).call) {ss fs : List Int} (hl : fs.length = ss.length) (h6 : ss.length ≤ 6) {row : D} {r : Int} {cells : List Int} {pos big tot : Int} (h : HOk cells pos big tot) :
    ∃ (es : List D) (p b t : Int) (s5 : Sl), spB1 C [.ow .par (HD cells pos big tot), S0 ss, .fz row, .ow .own (.lst (IL fs)), .fz (.int r), .un] = .next [.ow .par (HD cells p b t), S0 ss, .fz row, .ow .own (.lst es), .fz (.int r), s5] ∧ HOk cells p b t ∧ (∀ e ∈ es, el e = true) ∧ es.length = fs.length := by
  have els : ∀ e ∈ IL fs, el e = true := fun e he => by
    obtain ⟨x, _, rfl⟩ := List.mem_map.mp he
    rfl
  have test : VE.tAnd (tCm (xCmp .Eq (xVar 4) (xC (.int (1))))) (tE (xVar 3)) [.ow .par (HD cells pos big tot), S0 ss, .fz row, .ow .own (.lst (IL fs)), .fz (.int r), .un] = .ok (decide (r = 1) && !(IL fs).isEmpty) [.ow .par (HD cells pos big tot), S0 ss, .fz row, .ow .own (.lst (IL fs)), .fz (.int r), .un] := by
    by_cases z : r = 1
    · subst z
      simp [VE.tAnd, tCm, xCmp, tE, xVar, xC, Rs.bind, Rs.of, deref, getSl, cm_eq, truD]
    · simp [VE.tAnd, tCm, xCmp, tE, xVar, xC, Rs.bind, Rs.of, deref, getSl, cm_eq, truD, z]
  unfold spB1
  cases q : decide (r = 1) && !(IL fs).isEmpty with
  | false =>
    rw [q] at test
    exact ⟨IL fs, pos, big, tot, .un, sIf_skip test, h, els, by simp⟩
  | true =>
    rw [q] at test
    have hne : 0 < fs.length := by
      obtain ⟨_, q2⟩ := Bool.and_eq_true_iff.mp q
      cases fs with
      | nil => cases q2
      | cons _ _ => simp
    obtain ⟨i, p1, b1, t1, e1, i0, i1, h1⟩ := c_take (k + 1) h (m := fs.length) (by omega) (by omega)
    have his : i < (ss.length : Int) := by omega
    obtain ⟨sD, hsm, hsat⟩ := at_mem (L := IL ss) i0 (by simpa using his)
    obtain ⟨s, _, rfl⟩ := List.mem_map.mp hsm
    obtain ⟨d, p2, b2, t2, e2, h2, hd⟩ := c_lodd k s h1
    rw [← hC] at e1 e2
    have ex : xOwn (C "_law_take") [] (xACons (xVar 0) (xACons (xBi "len" (xACons (xVar 3) xANil)) xANil)) [.ow .par (HD cells pos big tot), S0 ss, .fz row, .ow .own (.lst (IL fs)), .fz (.int r), .un] = .ok (.va (.int i) false) [.ow .par (HD cells p1 b1 t1), S0 ss, .fz row, .ow .own (.lst (IL fs)), .fz (.int r), .un] := by
      refine xOwn_ok (ρ1 := [.ow .par (HD cells pos big tot), S0 ss, .fz row, .ow .own (.lst (IL fs)), .fz (.int r), .un]) (bs := [.at 0, .va (.int fs.length) false]) (sls := [.ow .par (HD cells pos big tot), .fz (.int fs.length)]) ?_ rfl e1 rfl
      simp [xACons, xANil, xBi, xVar, Rs.bind, Rs.of, deref, getSl, bi_len]
    have ey : xOwn (C "_law_odd") [] (xACons (xVar 0) (xACons (xIx (xVar 1) (xVar 5)) xANil)) [.ow .par (HD cells p1 b1 t1), S0 ss, .fz row, .ow .own (.lst (IL fs)), .fz (.int r), .fz (.int i)] = .ok (.va d false) [.ow .par (HD cells p2 b2 t2), S0 ss, .fz row, .ow .own (.lst (IL fs)), .fz (.int r), .fz (.int i)] := by
      refine xOwn_ok (ρ1 := [.ow .par (HD cells p1 b1 t1), S0 ss, .fz row, .ow .own (.lst (IL fs)), .fz (.int r), .fz (.int i)]) (bs := [.at 0, .va (.int s) false]) (sls := [.ow .par (HD cells p1 b1 t1), .fz (.int s)]) ?_ rfl e2 rfl
      simp [xACons, xANil, xIx, xVar, Rs.bind, Rs.of, deref, getSl, ixD, hsat]
    have hixn : ixN (IL fs).length i = some i.toNat := ix_ok' i0 (by simpa using i1)
    have esub : sSub (xVar 3) (xVar 5) (xOwn (C "_law_odd") [] (xACons (xVar 0) (xACons (xIx (xVar 1) (xVar 5)) xANil))) [.ow .par (HD cells p1 b1 t1), S0 ss, .fz row, .ow .own (.lst (IL fs)), .fz (.int r), .fz (.int i)] = .next [.ow .par (HD cells p2 b2 t2), S0 ss, .fz row, .ow .own (.lst ((IL fs).set i.toNat d)), .fz (.int r), .fz (.int i)] := by
      unfold sSub
      rw [ey]
      show (match ixN (IL fs).length i with
          | some n => if Md.own ≠ Md.lck then Rf.next _ else .stuck
          | none => .stuck) = _
      rw [hixn]
      rfl
    refine ⟨(IL fs).set i.toNat d, p2, b2, t2, .fz (.int i), ?_, h2, fun e he => ?_, by simp⟩
    · refine (sIf_t test).trans ?_
      rw [seq_next (sSet_ok (ρ2 := [.ow .par (HD cells p1 b1 t1), S0 ss, .fz row, .ow .own (.lst (IL fs)), .fz (.int r), .fz (.int i)]) ex rfl), seq_next esub]
      rfl
    · rcases List.mem_or_eq_of_mem_set he with q | rfl
      · exact els e q
      · exact hd
theorem sp2 {ss : List Int} {row : D} {r : Int} {s0 s5 : Sl} {es : List D} (hes : ∀ e ∈ es, el e = true) (h6 : es.length ≤ 6) :
    ∃ es', spB2 [s0, S0 ss, .fz row, .ow .own (.lst es), .fz (.int r), s5] = .next [s0, S0 ss, .fz row, .ow .own (.lst es'), .fz (.int r), s5] ∧ (∀ e ∈ es', el e = true) ∧ es'.length ≤ 6 := by
  have test : VE.tAnd (tCm (xCmp .Eq (xVar 4) (xC (.int (2))))) (tE (xVar 3)) [s0, S0 ss, .fz row, .ow .own (.lst es), .fz (.int r), s5] = .ok (decide (r = 2) && !es.isEmpty) [s0, S0 ss, .fz row, .ow .own (.lst es), .fz (.int r), s5] := by
    by_cases z : r = 2
    · subst z
      simp [VE.tAnd, tCm, xCmp, tE, xVar, xC, Rs.bind, Rs.of, deref, getSl, cm_eq, truD]
    · simp [VE.tAnd, tCm, xCmp, tE, xVar, xC, Rs.bind, Rs.of, deref, getSl, cm_eq, truD, z]
  unfold spB2
  cases q : decide (r = 2) && !es.isEmpty with
  | false =>
    rw [q] at test
    exact ⟨es, sIf_skip test, hes, h6⟩
  | true =>
    rw [q] at test
    have hne : 0 < es.length := by
      obtain ⟨_, q2⟩ := Bool.and_eq_true_iff.mp q
      cases es with
      | nil => cases q2
      | cons _ _ => simp
    have hlast : es[es.length - 1]? = some es[es.length - 1] := List.getElem?_eq_getElem (by omega)
    refine ⟨es.dropLast, (sIf_t test).trans ?_, fun e he => hes e (List.dropLast_subset es he), by rw [List.length_dropLast]; omega⟩
    have e1 : sDrop (xPop 3) [s0, S0 ss, .fz row, .ow .own (.lst es), .fz (.int r), s5] = .next [s0, S0 ss, .fz row, .ow .own (.lst es.dropLast), .fz (.int r), s5] := by
      show Rs.toF (if Md.own ≠ Md.lck then (match es[es.length - 1]? with
        | some d => Rs.ok (Bv.va d false) _
        | none => .stuck) else .stuck) _ = _
      rw [hlast]
      rfl
    rw [seq_next e1]
    rfl
theorem sp3 {ss : List Int} {row : D} {r : Int} {s0 s5 : Sl} {es : List D} (hes : ∀ e ∈ es, el e = true) (h6 : es.length ≤ 6) :
    ∃ es', spB3 [s0, S0 ss, .fz row, .ow .own (.lst es), .fz (.int r), s5] = .next [s0, S0 ss, .fz row, .ow .own (.lst es'), .fz (.int r), s5] ∧ (∀ e ∈ es', el e = true) := by
  have test : tCm (xCmp .Eq (xVar 4) (xC (.int (3)))) [s0, S0 ss, .fz row, .ow .own (.lst es), .fz (.int r), s5] = .ok (decide (r = 3)) [s0, S0 ss, .fz row, .ow .own (.lst es), .fz (.int r), s5] := by
    simp [tCm, xCmp, xVar, xC, Rs.bind, Rs.of, deref, getSl, cm_eq]
  unfold spB3
  cases q : decide (r = 3) with
  | false =>
    rw [q] at test
    exact ⟨es, sIf_skip test, hes⟩
  | true =>
    rw [q] at test
    have gs : es.length < sizeLine := by rw [sizeLine_eq]; omega
    refine ⟨es ++ [.int 0], (sIf_t test).trans ?_, fun e he => ?_⟩
    · have e1 : sDrop (xApp 3 (xC (.int (0)))) [s0, S0 ss, .fz row, .ow .own (.lst es), .fz (.int r), s5] = .next [s0, S0 ss, .fz row, .ow .own (.lst (es ++ [.int 0])), .fz (.int r), s5] := by
        simp [sDrop, xApp, xVar, xC, whole, Rs.bind, Rs.toF, gs]
      rw [seq_next e1]
      rfl
    · rcases List.mem_append.mp he with q | q
      · exact hes e q
      · rw [List.mem_singleton.mp q]
        rfl
theorem c_spoilt (k : Nat) {ss fs : List Int} (hl : fs.length = ss.length) (h6 : ss.length ≤ 6) {cells : List Int} {pos big tot : Int} (h : HOk cells pos big tot) :
    ∃ (d : D) (f : Bool) (p b t : Int), (Mk (k + 4)).call "_law_spoilt_row" [.ow .par (HD cells pos big tot), S0 ss, .fz (.tup (IL fs))] = .ret d f [.ow .par (HD cells p b t), S0 ss, .fz (.tup (IL fs))] ∧ HOk cells p b t ∧ Row d := by
  rw [call_eq (k := k + 3) (e := e__law_spoilt_row) rfl (mo__law_spoilt_row (k + 3)) rfl rfl]
  obtain ⟨r, p1, b1, t1, e1, r0, r1, h1⟩ := c_take (k + 1) h (m := 5) (by decide) (by decide)
  have em : m__law_spoilt_row (Mk (k + 3)).call = (sCons (sSet 3 (xBi "list" (xACons (xVar 2) xANil))) (sCons (sSet 4 (xOwn ((Mk (k + 3)).call "_law_take") [] (xACons (xVar 0) (xACons (xC (.int (5))) xANil)))) (sCons (sIf (tCm (xCmp .Eq (xVar 4) (xC (.int (0))))) (sCons (sRet (xOwn ((Mk (k + 3)).call "_law_rid") [] (xACons (xVar 0) xANil))) sNil) sNil) (sCons (spB1 (Mk (k + 3)).call) (sCons spB2 (sCons spB3 (sCons (sRet (xOwn ((Mk (k + 3)).call "_law_lists") [] (xACons (xVar 0) (xACons (xVar 3) xANil)))) sNil))))))) := rfl
  rw [em]
  show ∃ d f p b t, endF _ (sCons _ _ [.ow .par (HD cells pos big tot), S0 ss, .fz (.tup (IL fs)), .un, .un, .un]) = _ ∧ _
  obtain ⟨d0, p0, b0, t0, e0, h0, hd0⟩ := c_rid k h1
  obtain ⟨es1, p2, b2, t2, s5, es_1, h2, l1, n1⟩ := sp1 k rfl hl h6 (row := .tup (IL fs)) (r := r) h1
  obtain ⟨es2, es_2, l2, n2⟩ := sp2 (ss := ss) (row := .tup (IL fs)) (r := r) (s0 := .ow .par (HD cells p2 b2 t2)) (s5 := s5) l1 (by omega)
  obtain ⟨es3, es_3, l3⟩ := sp3 (ss := ss) (row := .tup (IL fs)) (r := r) (s0 := .ow .par (HD cells p2 b2 t2)) (s5 := s5) l2 n2
  obtain ⟨d4, f4, p4, b4, t4, e4, h4, hd4⟩ := c_lists k (s1 := .ow .par (.lst es3)) (xs := es3) (.inl rfl) h2
  generalize (Mk (k + 3)).call = C at e0 e1 e4 es_1 ⊢
  have a1 : sSet 3 (xBi "list" (xACons (xVar 2) xANil)) [.ow .par (HD cells pos big tot), S0 ss, .fz (.tup (IL fs)), .un, .un, .un] = .next [.ow .par (HD cells pos big tot), S0 ss, .fz (.tup (IL fs)), .ow .own (.lst (IL fs)), .un, .un] := by
    refine sSet_ok (b := .va (.lst (IL fs)) true) (ρ1 := [.ow .par (HD cells pos big tot), S0 ss, .fz (.tup (IL fs)), .un, .un, .un]) ?_ rfl
    simp [xBi, xACons, xANil, xVar, Rs.bind, Rs.of, deref, bi_listT]
  have ex : xOwn (C "_law_take") [] (xACons (xVar 0) (xACons (xC (.int (5))) xANil)) [.ow .par (HD cells pos big tot), S0 ss, .fz (.tup (IL fs)), .ow .own (.lst (IL fs)), .un, .un] = .ok (.va (.int r) false) [.ow .par (HD cells p1 b1 t1), S0 ss, .fz (.tup (IL fs)), .ow .own (.lst (IL fs)), .un, .un] := xOwn_ok (bs := [.at 0, .va (.int 5) false]) rfl rfl e1 rfl
  have test : tCm (xCmp .Eq (xVar 4) (xC (.int (0)))) [.ow .par (HD cells p1 b1 t1), S0 ss, .fz (.tup (IL fs)), .ow .own (.lst (IL fs)), .fz (.int r), .un] = .ok (decide (r = 0)) [.ow .par (HD cells p1 b1 t1), S0 ss, .fz (.tup (IL fs)), .ow .own (.lst (IL fs)), .fz (.int r), .un] := by
    simp [tCm, xCmp, xVar, xC, Rs.bind, Rs.of, deref, getSl, cm_eq]
  rw [seq_next a1, seq_next (sSet_ok (ρ2 := [.ow .par (HD cells p1 b1 t1), S0 ss, .fz (.tup (IL fs)), .ow .own (.lst (IL fs)), .fz (.int r), .un]) ex rfl)]
  by_cases z : r = 0
  · rw [decide_eq_true z] at test
    refine ⟨d0, false, p0, b0, t0, ?_, h0, hd0⟩
    have ey : xOwn (C "_law_rid") [] (xACons (xVar 0) xANil) [.ow .par (HD cells p1 b1 t1), S0 ss, .fz (.tup (IL fs)), .ow .own (.lst (IL fs)), .fz (.int r), .un] = .ok (.va d0 false) [.ow .par (HD cells p0 b0 t0), S0 ss, .fz (.tup (IL fs)), .ow .own (.lst (IL fs)), .fz (.int r), .un] := xOwn_ok (bs := [.at 0]) rfl rfl e0 rfl
    rw [seq_ret ((sIf_t test).trans (seq_ret (sRet_ok ey)))]
    rfl
  · rw [decide_eq_false z] at test
    rw [seq_next (sIf_skip test), seq_next es_1, seq_next es_2, seq_next es_3]
    have ez : xOwn (C "_law_lists") [] (xACons (xVar 0) (xACons (xVar 3) xANil)) [.ow .par (HD cells p2 b2 t2), S0 ss, .fz (.tup (IL fs)), .ow .own (.lst es3), .fz (.int r), s5] = .ok (.va d4 f4) [.ow .par (HD cells p4 b4 t4), S0 ss, .fz (.tup (IL fs)), .ow .own (.lst es3), .fz (.int r), s5] := xOwn_ok (ρ1 := [.ow .par (HD cells p2 b2 t2), S0 ss, .fz (.tup (IL fs)), .ow .own (.lst es3), .fz (.int r), s5]) (bs := [.at 0, .at 3]) (sls := [.ow .par (HD cells p2 b2 t2), .ow .par (.lst es3)]) rfl rfl e4 (by simp [giveBack, findArg, comb, comb_none])
    refine ⟨d4, f4, p4, b4, t4, ?_, h4, ?_⟩
    · rw [seq_ret (sRet_ok ez)]
      rfl
    · rcases hd4 with ⟨rfl, _⟩ | ⟨rfl, _⟩
      · exact row_lst l3
      · exact row_tup l3
end LawP
end

section
set_option Elab.async false
set_option linter.all false
set_option maxRecDepth 100000
set_option maxHeartbeats 4000000
namespace LawP
open PySem PySem.Spec L2 VE

theorem prod_app (ss : List Int) (x a : Int) : prod (ss ++ [x]) a = prod ss a * x := by
  unfold prod
  rw [List.foldl_append]
  rfl
def unfl : Bv → Bv
  | .at i => .at i
  | .va d _ => .va d false
theorem xACons_ok {a : XE} {r : XA} {ρ ρ1 ρ2 : Ro} {b : Bv} {bs : List Bv} (h1 : a ρ = .ok b ρ1) (h2 : r ρ1 = .ok bs ρ2) : xACons a r ρ = .ok (unfl b :: bs) ρ2 := by
  unfold xACons
  simp only [h1, Rs.bind, h2]
  cases b <;> rfl
theorem putI_ok {i : Nat} {d : D} {ρ : Ro} (m : mayStore ρ[i]? = true) : putI i (.va d false) ρ = .next (ρ.set i (.fz d)) := by
  show Rf.of (VE.stI i (.fz d) ρ) = _
  unfold VE.stI
  rw [if_pos m]
  rfl
theorem seq_last {a : XS} {ρ ρ1 : Ro} (h : a ρ = .next ρ1) : sCons a sNil ρ = .next ρ1 := (seq_next h).trans rfl
theorem sIf_do {c : XT} {a : XS} {ρ ρ1 ρ2 : Ro} (h : c ρ = .ok true ρ1) (h2 : a ρ1 = .next ρ2) : sIf c (sCons a sNil) sNil ρ = .next ρ2 := (sIf_t h).trans (seq_last h2)
def dsT (C : Str → List Sl → Cr) : XE := (xOwn (C "_law_take") [] (xACons (xVar 0) (xACons (xIte (tCm (xCmp .Eq (xOwn (C "_law_take") [] (xACons (xVar 0) (xACons (xC (.int (4))) xANil))) (xC (.int (0))))) (xC (.int (40))) (xC (.int (4)))) xANil)))
def dsB (C : Str → List Sl → Cr) : XS := (sCons (sSet 3 (xBin .Add (xC (.int (1))) (dsT C))) (sCons (sIf (tCm (xCmp .LtE (xBin .Mult (xOwn (C "_law_many") [] (xACons (xVar 1) xANil)) (xVar 3)) (xC (.int (500))))) (sCons (sDrop (xApp 1 (xVar 3))) sNil) sNil) sNil))
theorem ds_body (k : Nat) {ss : List Int} (ok : SOk2 ss) (h5 : ss.length < 6) {cells : List Int} {pos big tot : Int} (h : HOk cells pos big tot) {s2 s3 : Sl} (m3 : Ms s3) :
    ∃ (ss' : List Int) (p b t x : Int), dsB (Mk (k + 2)).call [.ow .par (HD cells pos big tot), .ow .own (.lst (IL ss)), s2, s3] = .next [.ow .par (HD cells p b t), .ow .own (.lst (IL ss')), s2, .fz (.int x)] ∧ HOk cells p b t ∧ SOk2 ss' ∧ ss'.length ≤ ss.length + 1 := by
  have hp := ok.p
  have h0 := prod_pos ss 1 (by decide) ok.b
  obtain ⟨r, p1, b1, t1, e1, r0, r1, h1⟩ := c_take k h (m := 4) (by decide) (by decide)
  have hm : 0 < (if r = 0 then (40 : Int) else 4) ∧ (if r = 0 then (40 : Int) else 4) ≤ 40 := by split <;> omega
  obtain ⟨y, p2, b2, t2, e2, y0, y1, h2⟩ := c_take k h1 (m := if r = 0 then 40 else 4) hm.1 (by
    have := hm.2
    have : (10 : Int) ^ 18 = 1000000000000000000 := by decide
    omega)
  have e3 := c_many (k + 1) (s0 := .ow .par (.lst (IL ss))) (.inl rfl) ok.toSOk
  have hy : 0 < 1 + y ∧ 1 + y ≤ 40 := by
    have := hm.2
    omega
  have g : mulOk (prod ss 1) (1 + y) = true := mulOk_of 9 6 (by omega) (by omega) (by decide) (by decide) (by decide)
  generalize (Mk (k + 2)).call = C at e1 e2 e3 ⊢
  have x1 : xOwn (C "_law_take") [] (xACons (xVar 0) (xACons (xC (.int (4))) xANil)) [.ow .par (HD cells pos big tot), .ow .own (.lst (IL ss)), s2, s3] = .ok (.va (.int r) false) [.ow .par (HD cells p1 b1 t1), .ow .own (.lst (IL ss)), s2, s3] := xOwn_ok (ρ1 := [.ow .par (HD cells pos big tot), .ow .own (.lst (IL ss)), s2, s3]) (bs := [.at 0, .va (.int 4) false]) rfl rfl e1 (by simp [giveBack, findArg, comb, comb_none])
  have x2 : xIte (tCm (xCmp .Eq (xOwn (C "_law_take") [] (xACons (xVar 0) (xACons (xC (.int (4))) xANil))) (xC (.int (0))))) (xC (.int (40))) (xC (.int (4))) [.ow .par (HD cells pos big tot), .ow .own (.lst (IL ss)), s2, s3] = .ok (.va (.int (if r = 0 then 40 else 4)) false) [.ow .par (HD cells p1 b1 t1), .ow .own (.lst (IL ss)), s2, s3] := by
    by_cases z : r = 0
    · simp [xIte, tCm, xCmp, x1, xC, Rs.bind, Rs.of, deref, cm_eq, z]
    · simp [xIte, tCm, xCmp, x1, xC, Rs.bind, Rs.of, deref, cm_eq, z]
  have x3 : dsT C [.ow .par (HD cells pos big tot), .ow .own (.lst (IL ss)), s2, s3] = .ok (.va (.int y) false) [.ow .par (HD cells p2 b2 t2), .ow .own (.lst (IL ss)), s2, s3] := by
    unfold dsT
    refine xOwn_ok (ρ1 := [.ow .par (HD cells p1 b1 t1), .ow .own (.lst (IL ss)), s2, s3]) (bs := [.at 0, .va (.int (if r = 0 then 40 else 4)) false]) (sls := [.ow .par (HD cells p1 b1 t1), .fz (.int (if r = 0 then 40 else 4))]) ?_ rfl e2 (by simp [giveBack, findArg, comb, comb_none])
    exact xACons_ok (b := .at 0) (ρ1 := [.ow .par (HD cells pos big tot), .ow .own (.lst (IL ss)), s2, s3]) rfl (xACons_ok x2 rfl)
  have a1 : sSet 3 (xBin .Add (xC (.int (1))) (dsT C)) [.ow .par (HD cells pos big tot), .ow .own (.lst (IL ss)), s2, s3] = .next [.ow .par (HD cells p2 b2 t2), .ow .own (.lst (IL ss)), s2, .fz (.int (1 + y))] := by
    refine sSet_ok (b := .va (.int (1 + y)) false) (ρ1 := [.ow .par (HD cells p2 b2 t2), .ow .own (.lst (IL ss)), s2, s3]) ?_ ?_
    · simp [xBin, x3, xC, Rs.bind, Rs.of, deref, binD, binI]
    · exact putI_ok (ρ := [.ow .par (HD cells p2 b2 t2), .ow .own (.lst (IL ss)), s2, s3]) m3
  have x4 : xOwn (C "_law_many") [] (xACons (xVar 1) xANil) [.ow .par (HD cells p2 b2 t2), .ow .own (.lst (IL ss)), s2, .fz (.int (1 + y))] = .ok (.va (.int (prod ss 1)) false) [.ow .par (HD cells p2 b2 t2), .ow .own (.lst (IL ss)), s2, .fz (.int (1 + y))] := xOwn_ok (ρ1 := [.ow .par (HD cells p2 b2 t2), .ow .own (.lst (IL ss)), s2, .fz (.int (1 + y))]) (bs := [.at 1]) (sls := [.ow .par (.lst (IL ss))]) rfl rfl e3 (by simp [giveBack, findArg, comb, comb_none])
  have test : tCm (xCmp .LtE (xBin .Mult (xOwn (C "_law_many") [] (xACons (xVar 1) xANil)) (xVar 3)) (xC (.int (500)))) [.ow .par (HD cells p2 b2 t2), .ow .own (.lst (IL ss)), s2, .fz (.int (1 + y))] = .ok (decide (prod ss 1 * (1 + y) ≤ 500)) [.ow .par (HD cells p2 b2 t2), .ow .own (.lst (IL ss)), s2, .fz (.int (1 + y))] := by
    simp [tCm, xCmp, xBin, x4, xVar, xC, Rs.bind, Rs.of, deref, getSl, binD, binI, g, cm_le]
  unfold dsB
  rw [seq_next a1]
  by_cases z : prod ss 1 * (1 + y) ≤ 500
  · rw [decide_eq_true z] at test
    have gs : ss.length < sizeLine := by rw [sizeLine_eq]; omega
    refine ⟨ss ++ [1 + y], p2, b2, t2, 1 + y, ?_, h2, ⟨⟨fun x hx => ?_, by simp; omega⟩, by rw [prod_app]; exact z⟩, by simp⟩
    · have e5 : sDrop (xApp 1 (xVar 3)) [.ow .par (HD cells p2 b2 t2), .ow .own (.lst (IL ss)), s2, .fz (.int (1 + y))] = .next [.ow .par (HD cells p2 b2 t2), .ow .own (.lst (IL (ss ++ [1 + y]))), s2, .fz (.int (1 + y))] := by
        simp [sDrop, xApp, xVar, whole, Rs.bind, Rs.toF, gs]
      exact seq_last (sIf_do test e5)
    · rcases List.mem_append.mp hx with q | q
      · exact ok.b x q
      · rw [List.mem_singleton.mp q]
        exact hy
  · rw [decide_eq_false z] at test
    refine ⟨ss, p2, b2, t2, 1 + y, ?_, h2, ok, by omega⟩
    exact seq_last (sIf_skip test)
theorem ds_loop (k : Nat) : ∀ (n : Nat) (lo : Int) {ss : List Int} {cells : List Int} {pos big tot : Int} {s2 s3 : Sl}, SOk2 ss → ss.length + n ≤ 6 → HOk cells pos big tot → Ms s2 → Ms s3 →
    ∃ (ss' : List Int) (p b t : Int) (s2' s3' : Sl), loopF (agI 2) (dsB (Mk (k + 2)).call) (rngD lo n) [.ow .par (HD cells pos big tot), .ow .own (.lst (IL ss)), s2, s3] = .next [.ow .par (HD cells p b t), .ow .own (.lst (IL ss')), s2', s3'] ∧ HOk cells p b t ∧ SOk2 ss'
  | 0, lo, ss, cells, pos, big, tot, s2, s3, ok, hl, h, _, _ => ⟨ss, pos, big, tot, s2, s3, by simp [rngD, loopF], h, ok⟩
  | n + 1, lo, ss, cells, pos, big, tot, s2, s3, ok, hl, h, m2, m3 => by
    obtain ⟨ss1, p1, b1, t1, x, e1, h1, ok1, l1⟩ := ds_body k ok (by omega) h (s2 := .fz (.int lo)) (s3 := s3) m3
    obtain ⟨ss2, p2, b2, t2, s2', s3', e2, h2, ok2⟩ := ds_loop k n (lo + 1) (s2 := .fz (.int lo)) (s3 := .fz (.int x)) ok1 (by omega) h1 rfl rfl
    refine ⟨ss2, p2, b2, t2, s2', s3', ?_, h2, ok2⟩
    have ea : agI 2 (.int lo) [.ow .par (HD cells pos big tot), .ow .own (.lst (IL ss)), s2, s3] = some [.ow .par (HD cells pos big tot), .ow .own (.lst (IL ss)), .fz (.int lo), s3] := by
      unfold agI VE.stI
      exact if_pos m2
    rw [rng_succ]
    show (match agI 2 (.int lo) [.ow .par (HD cells pos big tot), .ow .own (.lst (IL ss)), s2, s3] with
      | none => Rf.stuck
      | some ρ1 => (match dsB (Mk (k + 2)).call ρ1 with
        | .next ρ2 => loopF (agI 2) (dsB (Mk (k + 2)).call) (rngD (lo + 1) n) ρ2
        | .cnt ρ2 => loopF (agI 2) (dsB (Mk (k + 2)).call) (rngD (lo + 1) n) ρ2
        | .brk ρ2 => .next ρ2
        | r => r)) = _
    rw [ea]
    simp only [e1]
    exact e2
theorem c_dsizes (k : Nat) {cells : List Int} {pos big tot : Int} (h : HOk cells pos big tot) : ∃ (ss : List Int) (p b t : Int), (Mk (k + 3)).call "_law_drawn_sizes" [.ow .par (HD cells pos big tot)] = .ret (.lst (IL ss)) true [.ow .par (HD cells p b t)] ∧ HOk cells p b t ∧ SOk2 ss := by
  rw [call_eq (k := k + 2) (e := e__law_drawn_sizes) rfl (mo__law_drawn_sizes (k + 2)) rfl rfl]
  obtain ⟨r, p1, b1, t1, e1, r0, r1, h1⟩ := c_take k h (m := 7) (by decide) (by decide)
  have ok0 : SOk2 [] := ⟨⟨fun x hx => (by cases hx), by decide⟩, by decide⟩
  obtain ⟨ss, p2, b2, t2, s2', s3', e2, h2, ok2⟩ := ds_loop k r.toNat 0 (ss := []) (s2 := .un) (s3 := .un) ok0 (by simp; omega) h1 rfl rfl
  have em : m__law_drawn_sizes (Mk (k + 2)).call = (sCons (sSet 1 (xLst xNil)) (sCons (sFor (VE.iRng1 (xOwn ((Mk (k + 2)).call "_law_take") [] (xACons (xVar 0) (xACons (xC (.int (7))) xANil)))) (agI 2) (dsB (Mk (k + 2)).call)) (sCons (sRet (xVar 1)) sNil))) := rfl
  rw [em]
  generalize (Mk (k + 2)).call = C at e1 e2 ⊢
  refine ⟨ss, p2, b2, t2, ?_, h2, ok2⟩
  show endF _ (sCons _ _ [.ow .par (HD cells pos big tot), .un, .un, .un]) = _
  rw [seq_next (sSet_ok (b := .va (.lst []) true) (ρ1 := [.ow .par (HD cells pos big tot), .un, .un, .un]) (ρ2 := [.ow .par (HD cells pos big tot), .ow .own (.lst (IL [])), .un, .un]) (by simp [xLst, xNil, Rs.bind, sz0]) rfl)]
  have x1 : xOwn (C "_law_take") [] (xACons (xVar 0) (xACons (xC (.int (7))) xANil)) [.ow .par (HD cells pos big tot), .ow .own (.lst (IL [])), .un, .un] = .ok (.va (.int r) false) [.ow .par (HD cells p1 b1 t1), .ow .own (.lst (IL [])), .un, .un] := xOwn_ok (bs := [.at 0, .va (.int 7) false]) rfl rfl e1 rfl
  have ei := rng1_ok (N := r) x1 (small_of r0 (by omega))
  have ef : sFor (VE.iRng1 (xOwn (C "_law_take") [] (xACons (xVar 0) (xACons (xC (.int (7))) xANil)))) (agI 2) (dsB C) [.ow .par (HD cells pos big tot), .ow .own (.lst (IL [])), .un, .un] = .next [.ow .par (HD cells p2 b2 t2), .ow .own (.lst (IL ss)), s2', s3'] := by
    unfold sFor
    rw [ei]
    exact congrArg (Rf.map (unlockAll [])) e2
  rw [seq_next ef]
  rfl
end LawP
end

section
set_option Elab.async false
set_option linter.all false
set_option maxRecDepth 100000
set_option maxHeartbeats 4000000
namespace LawP
open PySem PySem.Spec L2 VE

/-! ### names -/
abbrev AZ : Str := PySem.Str.ofString "abcdefghijklmnopqrstuvwxyz"
theorem az_len : AZ.cps.toList.length = 26 := by decide +kernel
def lows (z : Str) : Bool := z.cps.toList.all fun c => decide (c ∈ AZ.cps.toList)
def nm : D → Bool
  | .str z => decide (1 ≤ z.length ∧ z.length ≤ 8) && lows z
  | _ => false
abbrev sg (c : Nat) : D := .str ⟨#[c]⟩
theorem in_sg (c : Nat) : cmpD .In (sg c) (.str AZ) = some (decide (c ∈ AZ.cps.toList)) := rfl
theorem nin_sg (c : Nat) : cmpD .NotIn (sg c) (.str AZ) = some (!decide (c ∈ AZ.cps.toList)) := rfl
theorem allB_map (p : Nat → Bool) : ∀ cs : List Nat, allB (cs.map fun c => D.bl (p c)) = some (cs.map p)
  | [] => rfl
  | c :: cs => by
    simp only [List.map_cons, allB, allB_map p cs, Option.map_some]
theorem nm_loop {s0 : Sl} : ∀ (cs : List Nat) (acc : List D), acc.length + cs.length ≤ 2000 →
    loopC [1] (agI 1) VE.tYes (xCmp .In (xVar 1) (xC (.str AZ))) (cs.map sg) acc [s0, .un] = .ok (acc ++ cs.map fun c => D.bl (decide (c ∈ AZ.cps.toList))) [s0, .un]
  | [], acc, _ => by simp [loopC]
  | c :: cs, acc, hl => by
    have hl' : acc.length + (cs.length + 1) ≤ 2000 := hl
    have gs : acc.length < sizeLine := by rw [sizeLine_eq]; omega
    have ih := nm_loop (s0 := s0) cs (acc ++ [.bl (decide (c ∈ AZ.cps.toList))]) (by rw [List.length_append, List.length_singleton]; omega)
    have ea : agI 1 (sg c) [s0, .un] = some [s0, .fz (sg c)] := rfl
    have ee : xCmp .In (xVar 1) (xC (.str AZ)) [s0, .fz (sg c)] = .ok (.va (.bl (decide (c ∈ AZ.cps.toList))) false) [s0, .fz (sg c)] := rfl
    rw [List.map_cons, loopC, ea]
    simp only [VE.tYes, if_true]
    rw [ee]
    simp only [whole]
    rw [if_pos (decide_eq_true gs)]
    have ew : wipeR [1] [s0, Sl.fz (sg c)] = [s0, .un] := rfl
    rw [ew, ih]
    simp
theorem lnm_loop {s0 : Sl} : ∀ (cs : List Nat) (acc : List D), acc.length + cs.length ≤ 2000 →
    ∃ l, loopC [1] (agI 1) (tCm (xCmp .NotIn (xVar 1) (xC (.str AZ)))) (xVar 1) (cs.map sg) acc [s0, .un] = .ok (acc ++ l) [s0, .un] ∧ l.isEmpty = cs.all fun c => decide (c ∈ AZ.cps.toList)
  | [], acc, _ => ⟨[], by simp [loopC], rfl⟩
  | c :: cs, acc, hl => by
    have hl' : acc.length + (cs.length + 1) ≤ 2000 := hl
    have gs : acc.length < sizeLine := by rw [sizeLine_eq]; omega
    have ea : agI 1 (sg c) [s0, .un] = some [s0, .fz (sg c)] := rfl
    have et : tCm (xCmp .NotIn (xVar 1) (xC (.str AZ))) [s0, .fz (sg c)] = .ok (!decide (c ∈ AZ.cps.toList)) [s0, .fz (sg c)] := rfl
    have ew : wipeR [1] [s0, Sl.fz (sg c)] = [s0, .un] := rfl
    by_cases h : c ∈ AZ.cps.toList
    · obtain ⟨l, ih, hi⟩ := lnm_loop (s0 := s0) cs acc (by omega)
      refine ⟨l, ?_, by rw [hi, List.all_cons, decide_eq_true h, Bool.true_and]⟩
      rw [List.map_cons, loopC, ea]
      rw [decide_eq_true h] at et
      simp only [et, Bool.not_true, Bool.false_eq_true, if_false, ew]
      exact ih
    · obtain ⟨l, ih, hi⟩ := lnm_loop (s0 := s0) cs (acc ++ [sg c]) (by rw [List.length_append, List.length_singleton]; omega)
      refine ⟨sg c :: l, ?_, by rw [List.all_cons, decide_eq_false h, Bool.false_and]; rfl⟩
      rw [List.map_cons, loopC, ea]
      rw [decide_eq_false h] at et
      have ev : xVar 1 [s0, .fz (sg c)] = .ok (.va (sg c) false) [s0, .fz (sg c)] := rfl
      simp only [et, Bool.not_false, if_true, ev, whole]
      rw [if_pos (decide_eq_true gs), ew, ih, List.append_assoc]
      rfl
theorem len_str {z : Str} (h : z.length ≤ 1000) : biD (Str.ofString "len") [.str z] = some (.int z.length, false) := by
  rw [bi_lenS, if_pos (show szOk z.length = true from decide_eq_true (by rw [sizeLine_eq]; omega))]
theorem sIf_retC {c : XT} {b : XS} {d : D} {ρ ρ1 : Ro} (h : c ρ = .ok true ρ1) : sIf c (sCons (sRet (xC d)) sNil) b ρ = .ret (.va d false) ρ1 := by
  rw [sIf_t h]
  rfl
/-- the first test of both judges of names -/
theorem nm_test {z : Str} (h : z.length ≤ 1000) {s1 : Sl} : VE.tOr (VE.tNot (tE (xIsi (xVar 0) ["str"]))) (VE.tNot (tCm (xCmp2 .LtE .LtE (xC (.int (1))) (xBi "len" (xACons (xVar 0) xANil)) (xC (.int (8)))))) [.fz (.str z), s1] = .ok (!decide (1 ≤ z.length ∧ z.length ≤ 8)) [.fz (.str z), s1] := by
  have hl := len_str h
  have e1 : xBi "len" (xACons (xVar 0) xANil) [.fz (.str z), s1] = .ok (.va (.int z.length) false) [.fz (.str z), s1] := by
    simp [xBi, xACons, xANil, xVar, Rs.bind, Rs.of, deref, hl]
  have e2 : tE (xIsi (xVar 0) ["str"]) [.fz (.str z), s1] = .ok true [.fz (.str z), s1] := by simp [tE, xIsi, xVar, Rs.bind, Rs.of, deref, tyD, isi_str_str, truD]
  have e3 : tCm (xCmp2 .LtE .LtE (xC (.int (1))) (xBi "len" (xACons (xVar 0) xANil)) (xC (.int (8)))) [.fz (.str z), s1] = .ok (decide (1 ≤ z.length ∧ z.length ≤ 8)) [.fz (.str z), s1] := by
    generalize z.length = n at e1 ⊢
    by_cases h1 : 1 ≤ n
    · have h1' : (1 : Int) ≤ n := by omega
      by_cases h2 : n ≤ 8
      · have h2' : (n : Int) ≤ 8 := by omega
        simp [tCm, xCmp2, e1, xC, Rs.bind, Rs.of, deref, cm_le, h1, h2, h1', h2']
      · have h2' : ¬ (n : Int) ≤ 8 := by omega
        simp [tCm, xCmp2, e1, xC, Rs.bind, Rs.of, deref, cm_le, h1, h2, h1', h2']
    · have h1' : ¬ (1 : Int) ≤ n := by omega
      simp [tCm, xCmp2, e1, xC, Rs.bind, Rs.of, deref, cm_le, h1, h1']
  simp only [VE.tOr, VE.tNot, e2, Rs.bind, Bool.not_true, Bool.false_eq_true, if_false, e3]
theorem no_test {d : D} (h : thB d = true) (hs : ∀ z, d ≠ .str z) {s1 : Sl} : VE.tOr (VE.tNot (tE (xIsi (xVar 0) ["str"]))) (VE.tNot (tCm (xCmp2 .LtE .LtE (xC (.int (1))) (xBi "len" (xACons (xVar 0) xANil)) (xC (.int (8)))))) [.fz d, s1] = .ok true [.fz d, s1] := by
  have e2 : tE (xIsi (xVar 0) ["str"]) [.fz d, s1] = .ok false [.fz d, s1] := by
    cases d with
    | str z => exact absurd rfl (hs z)
    | scr _ => cases h
    | obj _ _ => cases h
    | _ => simp [sCons, sSet, sRet, sNil, sIf, sSub, VE.tAnd, VE.tOr, VE.tNot, tCm, tE, xCmp, xIx, xBin, xBi, xOwn, xIte, xNeg, xTup, xLst, xCons, xNil, xACons, xANil, xVar, xC, Rs.bind, Rs.toF, Rs.of, Rf.of, deref, getSl, putI, VE.stI, mayStore, binD, binI, endF, outS, ixD, at40, at41, at42, at43, bi_len, bi_int, bi_abs, cm_eq, cm_lt, cm_gt, lend, lend1, atsOf, giveBack, findArg, comb, whole, truD, xAnd, xOr, xNot, xCmp2, xIsi, tyD, cm_le, cm_ge, comb_none, isi_NoneType_int, isi_NoneType_bool, isi_NoneType_tuple, isi_NoneType_str, isi_NoneType_list, isi_NoneType_seq, isi_bool_int, isi_bool_bool, isi_bool_tuple, isi_bool_str, isi_bool_list, isi_bool_seq, isi_int_int, isi_int_bool, isi_int_tuple, isi_int_str, isi_int_list, isi_int_seq, isi_str_int, isi_str_bool, isi_str_tuple, isi_str_str, isi_str_list, isi_str_seq, isi_tuple_int, isi_tuple_bool, isi_tuple_tuple, isi_tuple_str, isi_tuple_list, isi_tuple_seq, isi_list_int, isi_list_bool, isi_list_tuple, isi_list_str, isi_list_list, isi_list_seq, isi_dict_int, isi_dict_bool, isi_dict_tuple, isi_dict_str, isi_dict_list, isi_dict_seq]
  simp only [VE.tOr, VE.tNot, e2, Rs.bind, Bool.not_false, if_true]
theorem c_isname (k : Nat) {d : D} (h : thB d = true) : (Mk (k + 1)).call "is_name" [.fz d] = .ret (.bl (nm d)) false [.fz d] := by
  rw [call_eq (e := e_is_name) rfl (mo_is_name k) rfl rfl]
  unfold m_is_name
  generalize (Mk k).call = C
  show endF _ (sCons _ _ [.fz d, .un]) = _
  by_cases hs : ∃ z, d = .str z
  · obtain ⟨z, rfl⟩ := hs
    have hz : z.length ≤ 1000 := of_decide_eq_true h
    have t1 := nm_test hz (s1 := .un)
    by_cases q : 1 ≤ z.length ∧ z.length ≤ 8
    · rw [decide_eq_true q] at t1
      rw [seq_next (sIf_skip t1)]
      have el := nm_loop (s0 := .fz (.str z)) z.cps.toList [] (by
        show 0 + z.cps.toList.length ≤ 2000
        have : z.cps.toList.length = z.length := by simp [Str.length]
        omega)
      have ec : xComp [1] (VE.iGen (xVar 0)) (agI 1) VE.tYes (xCmp .In (xVar 1) (xC (.str AZ))) [.fz (.str z), .un] = .ok (.va (.lst (z.cps.toList.map fun c => D.bl (decide (c ∈ AZ.cps.toList)))) true) [.fz (.str z), .un] := by
        unfold xComp
        have ei : VE.iGen (xVar 0) [.fz (.str z), .un] = .ok (z.cps.toList.map sg, []) [.fz (.str z), .un] := rfl
        rw [ei]
        simp only [Rs.bind]
        rw [if_pos (by simp [lockAll, flatSl])]
        have ew : wipeR [1] (lockAll [] [Sl.fz (.str z), .un]) = [.fz (.str z), .un] := rfl
        rw [ew, el]
        rfl
      have eb : xBi "all" (xACons (xComp [1] (VE.iGen (xVar 0)) (agI 1) VE.tYes (xCmp .In (xVar 1) (xC (.str AZ)))) xANil) [.fz (.str z), .un] = .ok (.va (.bl (nm (.str z))) false) [.fz (.str z), .un] := by
        unfold xBi
        have ea := xACons_ok (r := xANil) ec rfl
        rw [ea]
        have ba : biD (Str.ofString "all") [.lst (z.cps.toList.map fun c => D.bl (decide (c ∈ AZ.cps.toList)))] = some (.bl (nm (.str z)), false) := by
          show (allB (z.cps.toList.map fun c => D.bl (decide (c ∈ AZ.cps.toList)))).map _ = _
          rw [allB_map]
          simp [nm, lows, q]
        show Rs.of ((biD (Str.ofString "all") [.lst (z.cps.toList.map fun c => D.bl (decide (c ∈ AZ.cps.toList)))]).map _) _ = _
        rw [ba]
        rfl
      rw [seq_ret (sRet_ok eb)]
      rfl
    · rw [decide_eq_false q] at t1
      have en : nm (.str z) = false := by simp only [nm, decide_eq_false q, Bool.false_and]
      rw [seq_ret (sIf_retC t1), en]
      rfl
  · have t1 := no_test h (fun z e => hs ⟨z, e⟩) (s1 := .un)
    have en : nm d = false := by
      cases d with
      | str z => exact absurd ⟨z, rfl⟩ hs
      | _ => rfl
    rw [seq_ret (sIf_retC t1), en]
    rfl
theorem c_lisname (k : Nat) {d : D} (h : thB d = true) : (Mk (k + 1)).call "_law_is_name" [.fz d] = .ret (.bl (nm d)) false [.fz d] := by
  rw [call_eq (e := e__law_is_name) rfl (mo__law_is_name k) rfl rfl]
  unfold m__law_is_name
  generalize (Mk k).call = C
  show endF _ (sCons _ _ [.fz d, .un]) = _
  by_cases hs : ∃ z, d = .str z
  · obtain ⟨z, rfl⟩ := hs
    have hz : z.length ≤ 1000 := of_decide_eq_true h
    have t1 := nm_test hz (s1 := .un)
    by_cases q : 1 ≤ z.length ∧ z.length ≤ 8
    · rw [decide_eq_true q] at t1
      rw [seq_next (sIf_skip t1)]
      obtain ⟨l, el, hi⟩ := lnm_loop (s0 := .fz (.str z)) z.cps.toList [] (by
        show 0 + z.cps.toList.length ≤ 2000
        have : z.cps.toList.length = z.length := by simp [Str.length]
        omega)
      have ec : xComp [1] (VE.iGen (xVar 0)) (agI 1) (tCm (xCmp .NotIn (xVar 1) (xC (.str AZ)))) (xVar 1) [.fz (.str z), .un] = .ok (.va (.lst l) true) [.fz (.str z), .un] := by
        unfold xComp
        have ei : VE.iGen (xVar 0) [.fz (.str z), .un] = .ok (z.cps.toList.map sg, []) [.fz (.str z), .un] := rfl
        rw [ei]
        simp only [Rs.bind]
        rw [if_pos (by simp [lockAll, flatSl])]
        have ew : wipeR [1] (lockAll [] [Sl.fz (.str z), .un]) = [.fz (.str z), .un] := rfl
        rw [ew, el]
        rfl
      have eb : xNot (xComp [1] (VE.iGen (xVar 0)) (agI 1) (tCm (xCmp .NotIn (xVar 1) (xC (.str AZ)))) (xVar 1)) [.fz (.str z), .un] = .ok (.va (.bl (nm (.str z))) false) [.fz (.str z), .un] := by
        unfold xNot
        rw [ec]
        simp only [Rs.bind, Rs.of, deref, truD, Option.bind_some, Option.map_some, Bool.not_not, hi, nm, lows, decide_eq_true q, Bool.true_and]
      rw [seq_ret (sRet_ok eb)]
      rfl
    · rw [decide_eq_false q] at t1
      have en : nm (.str z) = false := by simp only [nm, decide_eq_false q, Bool.false_and]
      rw [seq_ret (sIf_retC t1), en]
      rfl
  · have t1 := no_test h (fun z e => hs ⟨z, e⟩) (s1 := .un)
    have en : nm d = false := by
      cases d with
      | str z => exact absurd ⟨z, rfl⟩ hs
      | _ => rfl
    rw [seq_ret (sIf_retC t1), en]
    rfl
end LawP
end

section
set_option Elab.async false
set_option linter.all false
set_option maxRecDepth 100000
set_option maxHeartbeats 4000000
namespace LawP
open PySem PySem.Spec L2 VE

/-! ### wires -/
def wr : D → Bool
  | .tup [a, b] => nm a && wh b 2 4
  | .lst [a, b] => nm a && wh b 2 4
  | _ => false
def wireM (C : Str → List Sl → Cr) (f1 f2 : Str) : XS := (sCons (sIf (VE.tOr (VE.tNot (tE (xIsi (xVar 0) ["list", "tuple"]))) (tCm (xCmp .NotEq (xBi "len" (xACons (xVar 0) xANil)) (xC (.int (2)))))) (sCons (sRet (xC (.bl false))) sNil) sNil) (sCons (sRet (xAnd (xOwn (C f1) [] (xACons (xIx (xVar 0) (xC (.int (0)))) xANil)) (xOwn (C f2) [] (xACons (xIx (xVar 0) (xC (.int (1)))) (xACons (xC (.int (2))) (xACons (xC (.int (4))) xANil)))))) sNil))
theorem wr_row {d a b : D} (h : IsRow d [a, b]) : wr d = (nm a && wh b 2 4) := by
  rcases h with rfl | rfl <;> rfl
theorem wr_no {d : D} {es : List D} (h : IsRow d es) (q : es.length ≠ 2) : wr d = false := by
  rcases h with rfl | rfl
  · match es, q with
    | [], _ => rfl
    | [_], _ => rfl
    | [_, _], q => exact absurd rfl q
    | _ :: _ :: _ :: _, _ => rfl
  · match es, q with
    | [], _ => rfl
    | [_], _ => rfl
    | [_, _], q => exact absurd rfl q
    | _ :: _ :: _ :: _, _ => rfl
theorem wire_row {C : Str → List Sl → Cr} {f1 f2 : Str} (h1 : ∀ d, thB d = true → C f1 [.fz d] = .ret (.bl (nm d)) false [.fz d]) (h2 : ∀ d, kd d = true → C f2 [.fz d, .fz (.int 2), .fz (.int 4)] = .ret (.bl (wh d 2 4)) false [.fz d, .fz (.int 2), .fz (.int 4)]) {d : D} {es : List D} (hr : IsRow d es) (he : es.all thB = true) : wireM C f1 f2 [.fz d] = .ret (.va (.bl (wr d)) false) [.fz d] := by
  have hl := row_len hr
  have e2 : tE (xIsi (xVar 0) ["list", "tuple"]) [.fz d] = .ok true [.fz d] := by
    rcases hr with rfl | rfl <;> simp [sCons, sSet, sRet, sNil, sIf, sSub, VE.tAnd, VE.tOr, VE.tNot, tCm, tE, xCmp, xIx, xBin, xBi, xOwn, xIte, xNeg, xTup, xLst, xCons, xNil, xACons, xANil, xVar, xC, Rs.bind, Rs.toF, Rs.of, Rf.of, deref, getSl, putI, VE.stI, mayStore, binD, binI, endF, outS, ixD, at40, at41, at42, at43, bi_len, bi_int, bi_abs, cm_eq, cm_lt, cm_gt, lend, lend1, atsOf, giveBack, findArg, comb, whole, truD, xAnd, xOr, xNot, xCmp2, xIsi, tyD, cm_le, cm_ge, comb_none, isi_NoneType_int, isi_NoneType_bool, isi_NoneType_tuple, isi_NoneType_str, isi_NoneType_list, isi_NoneType_seq, isi_bool_int, isi_bool_bool, isi_bool_tuple, isi_bool_str, isi_bool_list, isi_bool_seq, isi_int_int, isi_int_bool, isi_int_tuple, isi_int_str, isi_int_list, isi_int_seq, isi_str_int, isi_str_bool, isi_str_tuple, isi_str_str, isi_str_list, isi_str_seq, isi_tuple_int, isi_tuple_bool, isi_tuple_tuple, isi_tuple_str, isi_tuple_list, isi_tuple_seq, isi_list_int, isi_list_bool, isi_list_tuple, isi_list_str, isi_list_list, isi_list_seq, isi_dict_int, isi_dict_bool, isi_dict_tuple, isi_dict_str, isi_dict_list, isi_dict_seq]
  have e3 : xBi "len" (xACons (xVar 0) xANil) [.fz d] = .ok (.va (.int es.length) false) [.fz d] := by
    simp [xBi, xACons, xANil, xVar, Rs.bind, Rs.of, deref, hl]
  have e4 : tCm (xCmp .NotEq (xBi "len" (xACons (xVar 0) xANil)) (xC (.int (2)))) [.fz d] = .ok (!decide ((es.length : Int) = 2)) [.fz d] := by
    simp only [tCm, xCmp, e3, xC, Rs.bind, Rs.of, deref, cm_ne, Option.bind_some, Option.map_some]
  have t1 : VE.tOr (VE.tNot (tE (xIsi (xVar 0) ["list", "tuple"]))) (tCm (xCmp .NotEq (xBi "len" (xACons (xVar 0) xANil)) (xC (.int (2))))) [.fz d] = .ok (!decide ((es.length : Int) = 2)) [.fz d] := by
    simp only [VE.tOr, VE.tNot, e2, Rs.bind, Bool.not_true, Bool.false_eq_true, if_false, e4]
  unfold wireM
  by_cases q : es.length = 2
  · have q' : (es.length : Int) = 2 := by omega
    rw [decide_eq_true q'] at t1
    rw [seq_next (sIf_skip t1)]
    match es, q, he, hr with
    | [a, b], _, he, hr =>
      have he' : thB a = true ∧ thB b = true := by simpa [List.all_cons, List.all_nil] using he
      have i0 : ixD d (.int 0) = some a := row_ix (pre := []) hr
      have i1 : ixD d (.int 1) = some b := row_ix (pre := [a]) hr
      have x0 : xIx (xVar 0) (xC (.int 0)) [.fz d] = .ok (.va a false) [.fz d] := by
        simp [xIx, xVar, xC, Rs.bind, Rs.of, deref, i0]
      have x1 : xIx (xVar 0) (xC (.int 1)) [.fz d] = .ok (.va b false) [.fz d] := by
        simp [xIx, xVar, xC, Rs.bind, Rs.of, deref, i1]
      have o1 : xOwn (C f1) [] (xACons (xIx (xVar 0) (xC (.int (0)))) xANil) [.fz d] = .ok (.va (.bl (nm a)) false) [.fz d] := xOwn_ok (xACons_ok x0 rfl) rfl (h1 a he'.1) (give_no rfl)
      have o2 : xOwn (C f2) [] (xACons (xIx (xVar 0) (xC (.int (1)))) (xACons (xC (.int (2))) (xACons (xC (.int (4))) xANil))) [.fz d] = .ok (.va (.bl (wh b 2 4)) false) [.fz d] := xOwn_ok (xACons_ok x1 rfl) rfl (h2 b (thB_kd he'.2)) (give_no rfl)
      have o3 : xAnd (xOwn (C f1) [] (xACons (xIx (xVar 0) (xC (.int (0)))) xANil)) (xOwn (C f2) [] (xACons (xIx (xVar 0) (xC (.int (1)))) (xACons (xC (.int (2))) (xACons (xC (.int (4))) xANil)))) [.fz d] = .ok (.va (.bl (nm a && wh b 2 4)) false) [.fz d] := by
        unfold xAnd
        rw [o1]
        cases hn : nm a
        · rfl
        · simp only [Rs.bind, deref, truD, Option.bind_some, if_true, o2, Bool.true_and]
      rw [seq_ret (sRet_ok o3), wr_row hr]
  · have q' : ¬ (es.length : Int) = 2 := by omega
    rw [decide_eq_false q'] at t1
    rw [seq_ret (sIf_retC t1), wr_no hr q]
theorem wire_no {C : Str → List Sl → Cr} {f1 f2 : Str} {d : D} (hd : thB d = true) (ht : ∀ es, d ≠ .tup es) (hl : ∀ es, d ≠ .lst es) : wireM C f1 f2 [.fz d] = .ret (.va (.bl (wr d)) false) [.fz d] := by
  have e2 : tE (xIsi (xVar 0) ["list", "tuple"]) [.fz d] = .ok false [.fz d] := by
    cases d with
    | tup es => exact absurd rfl (ht es)
    | lst es => exact absurd rfl (hl es)
    | scr _ => cases hd
    | obj _ _ => cases hd
    | _ => simp [sCons, sSet, sRet, sNil, sIf, sSub, VE.tAnd, VE.tOr, VE.tNot, tCm, tE, xCmp, xIx, xBin, xBi, xOwn, xIte, xNeg, xTup, xLst, xCons, xNil, xACons, xANil, xVar, xC, Rs.bind, Rs.toF, Rs.of, Rf.of, deref, getSl, putI, VE.stI, mayStore, binD, binI, endF, outS, ixD, at40, at41, at42, at43, bi_len, bi_int, bi_abs, cm_eq, cm_lt, cm_gt, lend, lend1, atsOf, giveBack, findArg, comb, whole, truD, xAnd, xOr, xNot, xCmp2, xIsi, tyD, cm_le, cm_ge, comb_none, isi_NoneType_int, isi_NoneType_bool, isi_NoneType_tuple, isi_NoneType_str, isi_NoneType_list, isi_NoneType_seq, isi_bool_int, isi_bool_bool, isi_bool_tuple, isi_bool_str, isi_bool_list, isi_bool_seq, isi_int_int, isi_int_bool, isi_int_tuple, isi_int_str, isi_int_list, isi_int_seq, isi_str_int, isi_str_bool, isi_str_tuple, isi_str_str, isi_str_list, isi_str_seq, isi_tuple_int, isi_tuple_bool, isi_tuple_tuple, isi_tuple_str, isi_tuple_list, isi_tuple_seq, isi_list_int, isi_list_bool, isi_list_tuple, isi_list_str, isi_list_list, isi_list_seq, isi_dict_int, isi_dict_bool, isi_dict_tuple, isi_dict_str, isi_dict_list, isi_dict_seq]
  have t1 : VE.tOr (VE.tNot (tE (xIsi (xVar 0) ["list", "tuple"]))) (tCm (xCmp .NotEq (xBi "len" (xACons (xVar 0) xANil)) (xC (.int (2))))) [.fz d] = .ok true [.fz d] := by
    simp only [VE.tOr, VE.tNot, e2, Rs.bind, Bool.not_false, if_true]
  unfold wireM
  rw [seq_ret (sIf_retC t1)]
  have : wr d = false := by
    cases d with
    | tup es => exact absurd rfl (ht es)
    | lst es => exact absurd rfl (hl es)
    | _ => rfl
  rw [this]
theorem wire_all {C : Str → List Sl → Cr} {f1 f2 : Str} (h1 : ∀ d, thB d = true → C f1 [.fz d] = .ret (.bl (nm d)) false [.fz d]) (h2 : ∀ d, kd d = true → C f2 [.fz d, .fz (.int 2), .fz (.int 4)] = .ret (.bl (wh d 2 4)) false [.fz d, .fz (.int 2), .fz (.int 4)]) {d : D} (hd : wtB d = true) : wireM C f1 f2 [.fz d] = .ret (.va (.bl (wr d)) false) [.fz d] := by
  cases d with
  | tup es => exact wire_row h1 h2 (.inl rfl) hd
  | lst es => exact wire_row h1 h2 (.inr rfl) hd
  | _ => exact wire_no hd (fun _ e => by cases e) (fun _ e => by cases e)
theorem c_iswire (k : Nat) {d : D} (h : wtB d = true) : (Mk (k + 2)).call "is_wire" [.fz d] = .ret (.bl (wr d)) false [.fz d] := by
  rw [call_eq (k := k + 1) (e := e_is_wire) rfl (mo_is_wire (k + 1)) rfl rfl]
  have h1 : ∀ d, thB d = true → (Mk (k + 1)).call "is_name" [.fz d] = .ret (.bl (nm d)) false [.fz d] := fun d hd => c_isname k hd
  have h2 : ∀ d, kd d = true → (Mk (k + 1)).call "is_whole" [.fz d, .fz (.int 2), .fz (.int 4)] = .ret (.bl (wh d 2 4)) false [.fz d, .fz (.int 2), .fz (.int 4)] := fun d hd => c_is_whole k hd
  have em : m_is_wire (Mk (k + 1)).call = wireM (Mk (k + 1)).call "is_name" "is_whole" := rfl
  rw [em]
  generalize (Mk (k + 1)).call = C at h1 h2 ⊢
  show endF _ (wireM C _ _ [.fz d]) = _
  rw [wire_all h1 h2 h]
  rfl
theorem c_liswire (k : Nat) {d : D} (h : wtB d = true) : (Mk (k + 2)).call "_law_is_wire" [.fz d] = .ret (.bl (wr d)) false [.fz d] := by
  rw [call_eq (k := k + 1) (e := e__law_is_wire) rfl (mo__law_is_wire (k + 1)) rfl rfl]
  have h1 : ∀ d, thB d = true → (Mk (k + 1)).call "_law_is_name" [.fz d] = .ret (.bl (nm d)) false [.fz d] := fun d hd => c_lisname k hd
  have h2 : ∀ d, kd d = true → (Mk (k + 1)).call "_law_whole" [.fz d, .fz (.int 2), .fz (.int 4)] = .ret (.bl (wh d 2 4)) false [.fz d, .fz (.int 2), .fz (.int 4)] := fun d hd => c_whole k hd
  have em : m__law_is_wire (Mk (k + 1)).call = wireM (Mk (k + 1)).call "_law_is_name" "_law_whole" := rfl
  rw [em]
  generalize (Mk (k + 1)).call = C at h1 h2 ⊢
  show endF _ (wireM C _ _ [.fz d]) = _
  rw [wire_all h1 h2 h]
  rfl
end LawP
end

section
set_option Elab.async false
set_option linter.all false
set_option maxRecDepth 100000
set_option maxHeartbeats 4000000
namespace LawP
open PySem PySem.Spec L2 VE

/-! ### a drawn name -/
def Nm (z : Str) : Prop := 1 ≤ z.length ∧ z.length ≤ 8 ∧ lows z = true
theorem Nm.nm {z : Str} (h : Nm z) : nm (.str z) = true := by
  have h1 : 1 ≤ z.length ∧ z.length ≤ 8 := ⟨h.1, h.2.1⟩
  simp only [LawP.nm, decide_eq_true h1, h.2.2, Bool.and_true]
theorem lows_app {y z : Str} : lows (y ++ z) = (lows y && lows z) := by
  show (y.cps ++ z.cps).toList.all _ = _
  rw [Array.toList_append, List.all_append]
  rfl
theorem len_app {y z : Str} : (y ++ z).length = y.length + z.length := by
  show (y.cps ++ z.cps).size = _
  rw [Array.size_append]
  rfl
theorem az_at {r : Int} (h0 : 0 ≤ r) (h1 : r < 26) : ∃ c, ixD (.str AZ) (.int r) = some (sg c) ∧ c ∈ AZ.cps.toList := by
  have hl := az_len
  have hr : r.toNat < AZ.cps.toList.length := by omega
  refine ⟨AZ.cps.toList[r.toNat], ?_, List.getElem_mem hr⟩
  show (if szOk AZ.length then (L2.atI AZ.cps.toList r).map fun c => D.str ⟨#[c]⟩ else none) = _
  have hz : szOk AZ.length = true := by decide +kernel
  rw [if_pos hz]
  have ha : L2.atI AZ.cps.toList r = some (AZ.cps.toList[r.toNat]) := by
    unfold L2.atI ixN
    rw [if_pos h0, if_pos (by rw [hl]; exact h1)]
    simp [hr]
  rw [ha]
  rfl
theorem sg_nm {c : Nat} (h : c ∈ AZ.cps.toList) : lows ⟨#[c]⟩ = true := by
  show [c].all _ = true
  simp only [List.all_cons, List.all_nil, Bool.and_true]
  exact decide_eq_true h
def nmB (C : Str → List Sl → Cr) : XS := (sCons (sSet 2 (xBin .Add (xVar 2) (xIx (xC (.str (PySem.Str.ofString "abcdefghijklmnopqrstuvwxyz"))) (xOwn (C "_law_take") [] (xACons (xVar 0) (xACons (xC (.int (26))) xANil)))))) sNil)
theorem add_str {y z : Str} (h : y.length + z.length ≤ 1000) : binD .Add (.str y) (.str z) = some (.str (y ++ z), false) := by
  show (if szOk (y.length + z.length) then some (D.str (y ++ z), false) else none) = _
  rw [if_pos (show szOk _ = true from decide_eq_true (by rw [sizeLine_eq]; omega))]
theorem name_loop (k : Nat) {s1 : Sl} : ∀ (n : Nat) (lo : Int) (z : Str) {cells : List Int} {pos big tot : Int} {s3 : Sl}, 1 ≤ z.length → z.length + n ≤ 8 → lows z = true → HOk cells pos big tot → Ms s3 →
    ∃ (z' : Str) (p b t : Int) (s3' : Sl), loopF (agI 3) (nmB (Mk (k + 2)).call) (rngD lo n) [.ow .par (HD cells pos big tot), s1, .fz (.str z), s3] = .next [.ow .par (HD cells p b t), s1, .fz (.str z'), s3'] ∧ HOk cells p b t ∧ Nm z'
  | 0, lo, z, cells, pos, big, tot, s3, l1, l2, lz, h, _ => ⟨z, pos, big, tot, s3, by simp [rngD, loopF], h, l1, by omega, lz⟩
  | n + 1, lo, z, cells, pos, big, tot, s3, l1, l2, lz, h, m3 => by
    obtain ⟨r, p1, b1, t1, e1, r0, r1, h1⟩ := c_take k h (m := 26) (by decide) (by decide)
    obtain ⟨c, hc, hm⟩ := az_at r0 r1
    have ll : (z ++ (⟨#[c]⟩ : Str)).length = z.length + 1 := len_app
    obtain ⟨z', p2, b2, t2, s3', e2, h2, hz⟩ := name_loop k n (lo + 1) (z ++ ⟨#[c]⟩) (s1 := s1) (s3 := .fz (.int lo)) (by omega) (by omega) (by rw [lows_app, lz, sg_nm hm]; rfl) h1 rfl
    refine ⟨z', p2, b2, t2, s3', ?_, h2, hz⟩
    have ea : agI 3 (.int lo) [.ow .par (HD cells pos big tot), s1, .fz (.str z), s3] = some [.ow .par (HD cells pos big tot), s1, .fz (.str z), .fz (.int lo)] := by
      unfold agI VE.stI
      exact if_pos m3
    have eb : nmB (Mk (k + 2)).call [.ow .par (HD cells pos big tot), s1, .fz (.str z), .fz (.int lo)] = .next [.ow .par (HD cells p1 b1 t1), s1, .fz (.str (z ++ ⟨#[c]⟩)), .fz (.int lo)] := by
      generalize (Mk (k + 2)).call = C at e1 ⊢
      have x1 : xOwn (C "_law_take") [] (xACons (xVar 0) (xACons (xC (.int (26))) xANil)) [.ow .par (HD cells pos big tot), s1, .fz (.str z), .fz (.int lo)] = .ok (.va (.int r) false) [.ow .par (HD cells p1 b1 t1), s1, .fz (.str z), .fz (.int lo)] := xOwn_ok (ρ1 := [.ow .par (HD cells pos big tot), s1, .fz (.str z), .fz (.int lo)]) (bs := [.at 0, .va (.int 26) false]) rfl rfl e1 (by simp [giveBack, findArg, comb, comb_none])
      have x2 : xIx (xC (.str (PySem.Str.ofString "abcdefghijklmnopqrstuvwxyz"))) (xOwn (C "_law_take") [] (xACons (xVar 0) (xACons (xC (.int (26))) xANil))) [.ow .par (HD cells pos big tot), s1, .fz (.str z), .fz (.int lo)] = .ok (.va (sg c) false) [.ow .par (HD cells p1 b1 t1), s1, .fz (.str z), .fz (.int lo)] := by
        unfold xIx
        simp only [xC, Rs.bind, x1, deref, Option.bind_some, hc, Option.map_some, Rs.of]
      have x3 : xBin .Add (xVar 2) (xIx (xC (.str (PySem.Str.ofString "abcdefghijklmnopqrstuvwxyz"))) (xOwn (C "_law_take") [] (xACons (xVar 0) (xACons (xC (.int (26))) xANil)))) [.ow .par (HD cells pos big tot), s1, .fz (.str z), .fz (.int lo)] = .ok (.va (.str (z ++ ⟨#[c]⟩)) false) [.ow .par (HD cells p1 b1 t1), s1, .fz (.str z), .fz (.int lo)] := by
        have v : xVar 2 [.ow .par (HD cells pos big tot), s1, .fz (.str z), .fz (.int lo)] = .ok (.va (.str z) false) [.ow .par (HD cells pos big tot), s1, .fz (.str z), .fz (.int lo)] := rfl
        have ad := add_str (y := z) (z := ⟨#[c]⟩) (by
          show z.length + 1 ≤ 1000
          omega)
        unfold xBin
        rw [v]
        simp only [Rs.bind]
        rw [x2]
        simp only [deref, Option.bind_some, ad, Option.map_some, Rs.of]
      exact seq_last (sSet_ok x3 rfl)
    rw [rng_succ]
    show (match agI 3 (.int lo) [.ow .par (HD cells pos big tot), s1, .fz (.str z), s3] with
      | none => Rf.stuck
      | some ρ1 => (match nmB (Mk (k + 2)).call ρ1 with
        | .next ρ2 => loopF (agI 3) (nmB (Mk (k + 2)).call) (rngD (lo + 1) n) ρ2
        | .cnt ρ2 => loopF (agI 3) (nmB (Mk (k + 2)).call) (rngD (lo + 1) n) ρ2
        | .brk ρ2 => .next ρ2
        | r => r)) = _
    rw [ea]
    simp only [eb]
    exact e2
def lens5 : List D := [.int 0, .int 0, .int 1, .int 3, .int 7]
theorem c_name (k : Nat) {f : Int} (f0 : 0 ≤ f) (f1 : f < 26) {cells : List Int} {pos big tot : Int} (h : HOk cells pos big tot) : ∃ (z : Str) (p b t : Int), (Mk (k + 3)).call "_law_name" [.ow .par (HD cells pos big tot), .fz (.int f)] = .ret (.str z) false [.ow .par (HD cells p b t), .fz (.int f)] ∧ HOk cells p b t ∧ Nm z := by
  rw [call_eq (k := k + 2) (e := e__law_name) rfl (mo__law_name (k + 2)) rfl rfl]
  obtain ⟨c, hc, hm⟩ := az_at f0 f1
  obtain ⟨r, p1, b1, t1, e1, r0, r1, h1⟩ := c_take k h (m := 5) (by decide) (by decide)
  obtain ⟨d, hd, hat⟩ := at_mem (L := lens5) r0 r1
  have hn : ∃ N : Int, d = .int N ∧ 0 ≤ N ∧ N ≤ 7 := by
    simp only [lens5, List.mem_cons, List.not_mem_nil, or_false] at hd
    rcases hd with rfl | rfl | rfl | rfl | rfl <;> exact ⟨_, rfl, by decide, by decide⟩
  obtain ⟨N, rfl, n0, n7⟩ := hn
  have lc : (⟨#[c]⟩ : Str).length = 1 := rfl
  obtain ⟨z, p2, b2, t2, s3, e2, h2, hz⟩ := name_loop k N.toNat 0 ⟨#[c]⟩ (s1 := .fz (.int f)) (s3 := .un) (by omega) (by omega) (sg_nm hm) h1 rfl
  refine ⟨z, p2, b2, t2, ?_, h2, hz⟩
  have em : m__law_name (Mk (k + 2)).call = (sCons (sSet 2 (xIx (xC (.str (PySem.Str.ofString "abcdefghijklmnopqrstuvwxyz"))) (xVar 1))) (sCons (sFor (VE.iRng1 (xIx (xTup (xCons (xC (.int (0))) (xCons (xC (.int (0))) (xCons (xC (.int (1))) (xCons (xC (.int (3))) (xCons (xC (.int (7))) xNil)))))) (xOwn ((Mk (k + 2)).call "_law_take") [] (xACons (xVar 0) (xACons (xC (.int (5))) xANil))))) (agI 3) (nmB (Mk (k + 2)).call)) (sCons (sRet (xVar 2)) sNil))) := rfl
  rw [em]
  generalize (Mk (k + 2)).call = C at e1 e2 ⊢
  show endF _ (sCons _ _ [.ow .par (HD cells pos big tot), .fz (.int f), .un, .un]) = _
  have x0 : xIx (xC (.str (PySem.Str.ofString "abcdefghijklmnopqrstuvwxyz"))) (xVar 1) [.ow .par (HD cells pos big tot), .fz (.int f), .un, .un] = .ok (.va (sg c) false) [.ow .par (HD cells pos big tot), .fz (.int f), .un, .un] := by
    have v : xVar 1 [.ow .par (HD cells pos big tot), .fz (.int f), .un, .un] = .ok (.va (.int f) false) [.ow .par (HD cells pos big tot), .fz (.int f), .un, .un] := rfl
    unfold xIx
    simp only [xC, Rs.bind, v, deref, Option.bind_some, hc, Option.map_some, Rs.of]
  rw [seq_next (sSet_ok (ρ2 := [.ow .par (HD cells pos big tot), .fz (.int f), .fz (sg c), .un]) x0 rfl)]
  have x1 : xOwn (C "_law_take") [] (xACons (xVar 0) (xACons (xC (.int (5))) xANil)) [.ow .par (HD cells pos big tot), .fz (.int f), .fz (sg c), .un] = .ok (.va (.int r) false) [.ow .par (HD cells p1 b1 t1), .fz (.int f), .fz (sg c), .un] := xOwn_ok (bs := [.at 0, .va (.int 5) false]) rfl rfl e1 rfl
  have x2 := xIx_tup (a := xTup (xCons (xC (.int (0))) (xCons (xC (.int (0))) (xCons (xC (.int (1))) (xCons (xC (.int (3))) (xCons (xC (.int (7))) xNil)))))) (ρ := [.ow .par (HD cells pos big tot), .fz (.int f), .fz (sg c), .un]) (L := lens5) rfl x1 hat
  have ei := rng1_ok (N := N) x2 (small_of n0 (by omega))
  have ef : sFor (VE.iRng1 (xIx (xTup (xCons (xC (.int (0))) (xCons (xC (.int (0))) (xCons (xC (.int (1))) (xCons (xC (.int (3))) (xCons (xC (.int (7))) xNil)))))) (xOwn (C "_law_take") [] (xACons (xVar 0) (xACons (xC (.int (5))) xANil))))) (agI 3) (nmB C) [.ow .par (HD cells pos big tot), .fz (.int f), .fz (sg c), .un] = .next [.ow .par (HD cells p2 b2 t2), .fz (.int f), .fz (.str z), s3] := by
    unfold sFor
    rw [ei]
    exact congrArg (Rf.map (unlockAll [])) e2
  rw [seq_next ef]
  rfl
end LawP
end

section
set_option Elab.async false
set_option linter.all false
set_option maxRecDepth 100000
set_option maxHeartbeats 4000000
namespace LawP
open PySem PySem.Spec L2 VE
theorem fw_loopO {C : Str → List Sl → Cr} (hC : ∀ (d : D) (h : Int), kd d = true → C "is_whole" [.fz d, .fz (.int 0), .fz (.int h)] = .ret (.bl (wh d 0 h)) false [.fz d, .fz (.int 0), .fz (.int h)]) {s0 : Sl} {r : D} {all : List D} (hr : IsRow r all) (hk : ∀ e ∈ all, kd e = true) :
    ∀ (ss : List Int) (es pre : List D) (s3 s4 : Sl), all = pre ++ es → Ms s3 → Ms s4 →
    ∃ s3' s4', loopF (agT [3, 4]) (fwB C) (enF pre.length ss) [s0, .ow .par r, .fz (.bl false), s3, s4] = match fwL ss es pre.length with
      | none => .next [s0, .ow .par r, .fz (.bl false), s3', s4']
      | some j => .ret (.va (.int j) false) [s0, .ow .par r, .fz (.bl false), s3', s4']
  | [], es, pre, s3, s4, _, _, _ => ⟨s3, s4, by simp [enF, loopF, fwL]⟩
  | s :: ss, [], pre, s3, s4, ha, m3, m4 => by
    refine ⟨.fz (.int pre.length), .fz (.int s), ?_⟩
    have ea := agT2 (s0 := s0) (s1 := .ow .par r) (s2 := .fz (.bl false)) (a := .int (pre.length : Int)) (b := .int s) m3 m4
    have hl := row_len hr
    have hl2 : all.length = pre.length := by rw [ha]; simp
    rw [hl2] at hl
    have eb : fwB C [s0, .ow .par r, .fz (.bl false), .fz (.int pre.length), .fz (.int s)] = .ret (.va (.int pre.length) false) [s0, .ow .par r, .fz (.bl false), .fz (.int pre.length), .fz (.int s)] := by
      simp [fwB, sCons, sSet, sRet, sNil, sIf, sSub, VE.tAnd, VE.tOr, VE.tNot, tCm, tE, xCmp, xIx, xBin, xBi, xOwn, xIte, xNeg, xTup, xLst, xCons, xNil, xACons, xANil, xVar, xC, Rs.bind, Rs.toF, Rs.of, Rf.of, deref, getSl, putI, VE.stI, mayStore, binD, binI, endF, outS, ixD, at40, at41, at42, at43, bi_len, bi_int, bi_abs, cm_eq, cm_lt, cm_gt, lend, lend1, atsOf, giveBack, findArg, comb, whole, truD, xAnd, xOr, xNot, xCmp2, xIsi, tyD, cm_le, cm_ge, comb_none, isi_NoneType_int, isi_NoneType_bool, isi_NoneType_tuple, isi_NoneType_str, isi_NoneType_list, isi_NoneType_seq, isi_bool_int, isi_bool_bool, isi_bool_tuple, isi_bool_str, isi_bool_list, isi_bool_seq, isi_int_int, isi_int_bool, isi_int_tuple, isi_int_str, isi_int_list, isi_int_seq, isi_str_int, isi_str_bool, isi_str_tuple, isi_str_str, isi_str_list, isi_str_seq, isi_tuple_int, isi_tuple_bool, isi_tuple_tuple, isi_tuple_str, isi_tuple_list, isi_tuple_seq, isi_list_int, isi_list_bool, isi_list_tuple, isi_list_str, isi_list_list, isi_list_seq, isi_dict_int, isi_dict_bool, isi_dict_tuple, isi_dict_str, isi_dict_list, isi_dict_seq, hl]
    show (match agT [3, 4] (.tup [.int pre.length, .int s]) [s0, .ow .par r, .fz (.bl false), s3, s4] with
      | none => Rf.stuck
      | some ρ1 => (match fwB C ρ1 with
        | .next ρ2 => loopF (agT [3, 4]) (fwB C) (enF (pre.length + 1) ss) ρ2
        | .cnt ρ2 => loopF (agT [3, 4]) (fwB C) (enF (pre.length + 1) ss) ρ2
        | .brk ρ2 => .next ρ2
        | r => r)) = _
    rw [ea]
    simp only [eb]
    rfl
  | s :: ss, e :: es, pre, s3, s4, ha, m3, m4 => by
    have ea := agT2 (s0 := s0) (s1 := .ow .par r) (s2 := .fz (.bl false)) (a := .int (pre.length : Int)) (b := .int s) m3 m4
    have hl := row_len hr
    have hlt : ¬ ((all.length : Int) ≤ pre.length) := by rw [ha]; simp; omega
    have hix : ixD r (.int (pre.length : Int)) = some e := row_ix (by rw [← ha]; exact hr)
    have hw := hC e (s - 1) (hk e (by rw [ha]; simp))
    have ha2 : all = (pre ++ [e]) ++ es := by rw [ha]; simp
    obtain ⟨s3', s4', ih⟩ := fw_loopO hC (s0 := s0) hr hk ss es (pre ++ [e]) (.fz (.int pre.length)) (.fz (.int s)) ha2 rfl rfl
    have hpl : (pre ++ [e]).length = pre.length + 1 := by simp
    rw [hpl] at ih
    have step : loopF (agT [3, 4]) (fwB C) (enF pre.length (s :: ss)) [s0, .ow .par r, .fz (.bl false), s3, s4] = (match fwB C [s0, .ow .par r, .fz (.bl false), .fz (.int pre.length), .fz (.int s)] with
        | .next ρ2 => loopF (agT [3, 4]) (fwB C) (enF (pre.length + 1) ss) ρ2
        | .cnt ρ2 => loopF (agT [3, 4]) (fwB C) (enF (pre.length + 1) ss) ρ2
        | .brk ρ2 => .next ρ2
        | r => r) := by
      show (match agT [3, 4] (.tup [.int pre.length, .int s]) [s0, .ow .par r, .fz (.bl false), s3, s4] with
        | none => Rf.stuck
        | some ρ1 => _) = _
      rw [ea]
      all_goals rfl
    rw [step]
    by_cases h : wh e 0 (s - 1) = true
    · have eb : fwB C [s0, .ow .par r, .fz (.bl false), .fz (.int pre.length), .fz (.int s)] = .next [s0, .ow .par r, .fz (.bl false), .fz (.int pre.length), .fz (.int s)] := by
        rw [h] at hw
        have ix2 := hix
        simp only [ixD] at ix2
        unfold fwB
        rw [seq_next (ρ1 := [s0, .ow .par r, .fz (.bl false), .fz (.int pre.length), .fz (.int s)]) (by simp [sCons, sSet, sRet, sNil, sIf, sSub, VE.tAnd, VE.tOr, VE.tNot, tCm, tE, xCmp, xIx, xBin, xBi, xOwn, xIte, xNeg, xTup, xLst, xCons, xNil, xACons, xANil, xVar, xC, Rs.bind, Rs.toF, Rs.of, Rf.of, deref, getSl, putI, VE.stI, mayStore, binD, binI, endF, outS, ixD, at40, at41, at42, at43, bi_len, bi_int, bi_abs, cm_eq, cm_lt, cm_gt, lend, lend1, atsOf, giveBack, findArg, comb, whole, truD, xAnd, xOr, xNot, xCmp2, xIsi, tyD, cm_le, cm_ge, comb_none, isi_NoneType_int, isi_NoneType_bool, isi_NoneType_tuple, isi_NoneType_str, isi_NoneType_list, isi_NoneType_seq, isi_bool_int, isi_bool_bool, isi_bool_tuple, isi_bool_str, isi_bool_list, isi_bool_seq, isi_int_int, isi_int_bool, isi_int_tuple, isi_int_str, isi_int_list, isi_int_seq, isi_str_int, isi_str_bool, isi_str_tuple, isi_str_str, isi_str_list, isi_str_seq, isi_tuple_int, isi_tuple_bool, isi_tuple_tuple, isi_tuple_str, isi_tuple_list, isi_tuple_seq, isi_list_int, isi_list_bool, isi_list_tuple, isi_list_str, isi_list_list, isi_list_seq, isi_dict_int, isi_dict_bool, isi_dict_tuple, isi_dict_str, isi_dict_list, isi_dict_seq, hl, hlt])]
        rw [seq_next (ρ1 := [s0, .ow .par r, .fz (.bl false), .fz (.int pre.length), .fz (.int s)]) (by simp [sCons, sSet, sRet, sNil, sIf, sSub, VE.tAnd, VE.tOr, VE.tNot, tCm, tE, xCmp, xIx, xBin, xBi, xOwn, xIte, xNeg, xTup, xLst, xCons, xNil, xACons, xANil, xVar, xC, Rs.bind, Rs.toF, Rs.of, Rf.of, deref, getSl, putI, VE.stI, mayStore, binD, binI, endF, outS, ixD, at40, at41, at42, at43, bi_len, bi_int, bi_abs, cm_eq, cm_lt, cm_gt, lend, lend1, atsOf, giveBack, findArg, comb, whole, truD, xAnd, xOr, xNot, xCmp2, xIsi, tyD, cm_le, cm_ge, comb_none, isi_NoneType_int, isi_NoneType_bool, isi_NoneType_tuple, isi_NoneType_str, isi_NoneType_list, isi_NoneType_seq, isi_bool_int, isi_bool_bool, isi_bool_tuple, isi_bool_str, isi_bool_list, isi_bool_seq, isi_int_int, isi_int_bool, isi_int_tuple, isi_int_str, isi_int_list, isi_int_seq, isi_str_int, isi_str_bool, isi_str_tuple, isi_str_str, isi_str_list, isi_str_seq, isi_tuple_int, isi_tuple_bool, isi_tuple_tuple, isi_tuple_str, isi_tuple_list, isi_tuple_seq, isi_list_int, isi_list_bool, isi_list_tuple, isi_list_str, isi_list_list, isi_list_seq, isi_dict_int, isi_dict_bool, isi_dict_tuple, isi_dict_str, isi_dict_list, isi_dict_seq])]
        have ei : xIx (xVar 1) (xVar 3) [s0, .ow .par r, .fz (.bl false), .fz (.int pre.length), .fz (.int s)] = .ok (.va e false) [s0, .ow .par r, .fz (.bl false), .fz (.int pre.length), .fz (.int s)] := by
          simp [xIx, xVar, Rs.bind, Rs.of, deref, getSl, hix]
        have eo : xOwn (C "is_whole") [] (xACons (xIx (xVar 1) (xVar 3)) (xACons (xC (.int (0))) (xACons (xBin .Sub (xVar 4) (xC (.int (1)))) xANil))) [s0, .ow .par r, .fz (.bl false), .fz (.int pre.length), .fz (.int s)] = .ok (.va (.bl true) false) [s0, .ow .par r, .fz (.bl false), .fz (.int pre.length), .fz (.int s)] := by
          refine xOwn_ok (bs := [.va e false, .va (.int 0) false, .va (.int (s - 1)) false]) ?_ rfl hw (give_no rfl)
          simp only [xACons, ei]
          simp [sCons, sSet, sRet, sNil, sIf, sSub, VE.tAnd, VE.tOr, VE.tNot, tCm, tE, xCmp, xIx, xBin, xBi, xOwn, xIte, xNeg, xTup, xLst, xCons, xNil, xACons, xANil, xVar, xC, Rs.bind, Rs.toF, Rs.of, Rf.of, deref, getSl, putI, VE.stI, mayStore, binD, binI, endF, outS, ixD, at40, at41, at42, at43, bi_len, bi_int, bi_abs, cm_eq, cm_lt, cm_gt, lend, lend1, atsOf, giveBack, findArg, comb, whole, truD, xAnd, xOr, xNot, xCmp2, xIsi, tyD, cm_le, cm_ge, comb_none, isi_NoneType_int, isi_NoneType_bool, isi_NoneType_tuple, isi_NoneType_str, isi_NoneType_list, isi_NoneType_seq, isi_bool_int, isi_bool_bool, isi_bool_tuple, isi_bool_str, isi_bool_list, isi_bool_seq, isi_int_int, isi_int_bool, isi_int_tuple, isi_int_str, isi_int_list, isi_int_seq, isi_str_int, isi_str_bool, isi_str_tuple, isi_str_str, isi_str_list, isi_str_seq, isi_tuple_int, isi_tuple_bool, isi_tuple_tuple, isi_tuple_str, isi_tuple_list, isi_tuple_seq, isi_list_int, isi_list_bool, isi_list_tuple, isi_list_str, isi_list_list, isi_list_seq, isi_dict_int, isi_dict_bool, isi_dict_tuple, isi_dict_str, isi_dict_list, isi_dict_seq]
        have et : sIf (VE.tNot (tE (xOwn (C "is_whole") [] (xACons (xIx (xVar 1) (xVar 3)) (xACons (xC (.int (0))) (xACons (xBin .Sub (xVar 4) (xC (.int (1)))) xANil)))))) (sCons (sRet (xVar 3)) sNil) sNil [s0, .ow .par r, .fz (.bl false), .fz (.int pre.length), .fz (.int s)] = .next [s0, .ow .par r, .fz (.bl false), .fz (.int pre.length), .fz (.int s)] := by
          unfold sIf VE.tNot tE
          rw [eo]
          rfl
        rw [seq_next et]
        rfl
      rw [eb]
      have ef : fwL (s :: ss) (e :: es) pre.length = fwL ss es (pre.length + 1) := by simp [fwL, h]
      rw [ef]
      exact ⟨s3', s4', ih⟩
    · have h' : wh e 0 (s - 1) = false := by simpa using h
      have eb : fwB C [s0, .ow .par r, .fz (.bl false), .fz (.int pre.length), .fz (.int s)] = .ret (.va (.int pre.length) false) [s0, .ow .par r, .fz (.bl false), .fz (.int pre.length), .fz (.int s)] := by
        rw [h'] at hw
        unfold fwB
        rw [seq_next (ρ1 := [s0, .ow .par r, .fz (.bl false), .fz (.int pre.length), .fz (.int s)]) (by simp [sCons, sSet, sRet, sNil, sIf, sSub, VE.tAnd, VE.tOr, VE.tNot, tCm, tE, xCmp, xIx, xBin, xBi, xOwn, xIte, xNeg, xTup, xLst, xCons, xNil, xACons, xANil, xVar, xC, Rs.bind, Rs.toF, Rs.of, Rf.of, deref, getSl, putI, VE.stI, mayStore, binD, binI, endF, outS, ixD, at40, at41, at42, at43, bi_len, bi_int, bi_abs, cm_eq, cm_lt, cm_gt, lend, lend1, atsOf, giveBack, findArg, comb, whole, truD, xAnd, xOr, xNot, xCmp2, xIsi, tyD, cm_le, cm_ge, comb_none, isi_NoneType_int, isi_NoneType_bool, isi_NoneType_tuple, isi_NoneType_str, isi_NoneType_list, isi_NoneType_seq, isi_bool_int, isi_bool_bool, isi_bool_tuple, isi_bool_str, isi_bool_list, isi_bool_seq, isi_int_int, isi_int_bool, isi_int_tuple, isi_int_str, isi_int_list, isi_int_seq, isi_str_int, isi_str_bool, isi_str_tuple, isi_str_str, isi_str_list, isi_str_seq, isi_tuple_int, isi_tuple_bool, isi_tuple_tuple, isi_tuple_str, isi_tuple_list, isi_tuple_seq, isi_list_int, isi_list_bool, isi_list_tuple, isi_list_str, isi_list_list, isi_list_seq, isi_dict_int, isi_dict_bool, isi_dict_tuple, isi_dict_str, isi_dict_list, isi_dict_seq, hl, hlt])]
        rw [seq_next (ρ1 := [s0, .ow .par r, .fz (.bl false), .fz (.int pre.length), .fz (.int s)]) (by simp [sCons, sSet, sRet, sNil, sIf, sSub, VE.tAnd, VE.tOr, VE.tNot, tCm, tE, xCmp, xIx, xBin, xBi, xOwn, xIte, xNeg, xTup, xLst, xCons, xNil, xACons, xANil, xVar, xC, Rs.bind, Rs.toF, Rs.of, Rf.of, deref, getSl, putI, VE.stI, mayStore, binD, binI, endF, outS, ixD, at40, at41, at42, at43, bi_len, bi_int, bi_abs, cm_eq, cm_lt, cm_gt, lend, lend1, atsOf, giveBack, findArg, comb, whole, truD, xAnd, xOr, xNot, xCmp2, xIsi, tyD, cm_le, cm_ge, comb_none, isi_NoneType_int, isi_NoneType_bool, isi_NoneType_tuple, isi_NoneType_str, isi_NoneType_list, isi_NoneType_seq, isi_bool_int, isi_bool_bool, isi_bool_tuple, isi_bool_str, isi_bool_list, isi_bool_seq, isi_int_int, isi_int_bool, isi_int_tuple, isi_int_str, isi_int_list, isi_int_seq, isi_str_int, isi_str_bool, isi_str_tuple, isi_str_str, isi_str_list, isi_str_seq, isi_tuple_int, isi_tuple_bool, isi_tuple_tuple, isi_tuple_str, isi_tuple_list, isi_tuple_seq, isi_list_int, isi_list_bool, isi_list_tuple, isi_list_str, isi_list_list, isi_list_seq, isi_dict_int, isi_dict_bool, isi_dict_tuple, isi_dict_str, isi_dict_list, isi_dict_seq])]
        have ei : xIx (xVar 1) (xVar 3) [s0, .ow .par r, .fz (.bl false), .fz (.int pre.length), .fz (.int s)] = .ok (.va e false) [s0, .ow .par r, .fz (.bl false), .fz (.int pre.length), .fz (.int s)] := by
          simp [xIx, xVar, Rs.bind, Rs.of, deref, getSl, hix]
        have eo : xOwn (C "is_whole") [] (xACons (xIx (xVar 1) (xVar 3)) (xACons (xC (.int (0))) (xACons (xBin .Sub (xVar 4) (xC (.int (1)))) xANil))) [s0, .ow .par r, .fz (.bl false), .fz (.int pre.length), .fz (.int s)] = .ok (.va (.bl false) false) [s0, .ow .par r, .fz (.bl false), .fz (.int pre.length), .fz (.int s)] := by
          refine xOwn_ok (bs := [.va e false, .va (.int 0) false, .va (.int (s - 1)) false]) ?_ rfl hw (give_no rfl)
          simp only [xACons, ei]
          simp [sCons, sSet, sRet, sNil, sIf, sSub, VE.tAnd, VE.tOr, VE.tNot, tCm, tE, xCmp, xIx, xBin, xBi, xOwn, xIte, xNeg, xTup, xLst, xCons, xNil, xACons, xANil, xVar, xC, Rs.bind, Rs.toF, Rs.of, Rf.of, deref, getSl, putI, VE.stI, mayStore, binD, binI, endF, outS, ixD, at40, at41, at42, at43, bi_len, bi_int, bi_abs, cm_eq, cm_lt, cm_gt, lend, lend1, atsOf, giveBack, findArg, comb, whole, truD, xAnd, xOr, xNot, xCmp2, xIsi, tyD, cm_le, cm_ge, comb_none, isi_NoneType_int, isi_NoneType_bool, isi_NoneType_tuple, isi_NoneType_str, isi_NoneType_list, isi_NoneType_seq, isi_bool_int, isi_bool_bool, isi_bool_tuple, isi_bool_str, isi_bool_list, isi_bool_seq, isi_int_int, isi_int_bool, isi_int_tuple, isi_int_str, isi_int_list, isi_int_seq, isi_str_int, isi_str_bool, isi_str_tuple, isi_str_str, isi_str_list, isi_str_seq, isi_tuple_int, isi_tuple_bool, isi_tuple_tuple, isi_tuple_str, isi_tuple_list, isi_tuple_seq, isi_list_int, isi_list_bool, isi_list_tuple, isi_list_str, isi_list_list, isi_list_seq, isi_dict_int, isi_dict_bool, isi_dict_tuple, isi_dict_str, isi_dict_list, isi_dict_seq]
        have et : sIf (VE.tNot (tE (xOwn (C "is_whole") [] (xACons (xIx (xVar 1) (xVar 3)) (xACons (xC (.int (0))) (xACons (xBin .Sub (xVar 4) (xC (.int (1)))) xANil)))))) (sCons (sRet (xVar 3)) sNil) sNil [s0, .ow .par r, .fz (.bl false), .fz (.int pre.length), .fz (.int s)] = .ret (.va (.int pre.length) false) [s0, .ow .par r, .fz (.bl false), .fz (.int pre.length), .fz (.int s)] := by
          unfold sIf VE.tNot tE
          rw [eo]
          rfl
        rw [seq_ret et]
      rw [eb]
      have ef : fwL (s :: ss) (e :: es) pre.length = some pre.length := by simp [fwL, h']
      rw [ef]
      exact ⟨.fz (.int pre.length), .fz (.int s), rfl⟩
theorem fw_forO {C : Str → List Sl → Cr} (hC : ∀ (d : D) (h : Int), kd d = true → C "is_whole" [.fz d, .fz (.int 0), .fz (.int h)] = .ret (.bl (wh d 0 h)) false [.fz d, .fz (.int 0), .fz (.int h)]) {ss : List Int} {r : D} {es : List D} (hr : IsRow r es) (hk : ∀ e ∈ es, kd e = true) :
    ∃ s3' s4', sFor (VE.iEnu (xVar 0)) (agT [3, 4]) (fwB C) [S0 ss, .ow .par r, .fz (.bl false), .un, .un] = match fwL ss es 0 with
      | none => .next [S0 ss, .ow .par r, .fz (.bl false), s3', s4']
      | some j => .ret (.va (.int j) false) [S0 ss, .ow .par r, .fz (.bl false), s3', s4'] := by
  obtain ⟨s3', s4', e⟩ := fw_loopO hC (s0 := .ow .lck (.lst (IL ss))) hr hk ss es [] .un .un rfl rfl rfl
  refine ⟨s3', s4', ?_⟩
  have ei : VE.iEnu (xVar 0) [S0 ss, .ow .par r, .fz (.bl false), .un, .un] = .ok (enF 0 ss, [(0, .par)]) [S0 ss, .ow .par r, .fz (.bl false), .un, .un] := by
    rw [← enum_eq]
    rfl
  unfold sFor
  rw [ei]
  have e' : loopF (agT [3, 4]) (fwB C) (enF 0 ss) [.ow .lck (.lst (IL ss)), .ow .par r, .fz (.bl false), .un, .un] = _ := e
  cases q : fwL ss es 0 with
  | none =>
    have q' : fwL ss es ([] : List D).length = none := q
    rw [q'] at e'
    exact congrArg (Rf.map (unlockAll [(0, .par)])) e'
  | some j =>
    have q' : fwL ss es ([] : List D).length = some j := q
    rw [q'] at e'
    exact congrArg (Rf.map (unlockAll [(0, .par)])) e'
theorem c_fwrongO (k : Nat) {ss : List Int} {r : D} {es : List D} (hr : IsRow r es) (hk : ∀ e ∈ es, kd e = true) : (Mk (k + 2)).call "first_wrong" [S0 ss, .ow .par r, .fz (.bl false)] = .ret (firstW ss es) false [S0 ss, .ow .par r, .fz (.bl false)] := by
  rw [call_eq (k := k + 1) (e := e_first_wrong) rfl (mo_first_wrong (k + 1)) rfl rfl]
  have hC : ∀ (d : D) (h : Int), kd d = true → (Mk (k + 1)).call "is_whole" [.fz d, .fz (.int 0), .fz (.int h)] = .ret (.bl (wh d 0 h)) false [.fz d, .fz (.int 0), .fz (.int h)] := fun d h hd => c_is_whole k hd
  have em : m_first_wrong (Mk (k + 1)).call = (sCons (sIf (VE.tNot (tE (xIsi (xVar 1) ["list", "tuple"]))) (sCons (sRet (xC (.int (0)))) sNil) sNil) (sCons (sFor (VE.iEnu (xVar 0)) (agT [3, 4]) (fwB (Mk (k + 1)).call)) (sCons (sRet (xIte (tCm (xCmp .Gt (xBi "len" (xACons (xVar 1) xANil)) (xBi "len" (xACons (xVar 0) xANil)))) (xBi "len" (xACons (xVar 0) xANil)) (xC (.non)))) sNil))) := rfl
  rw [em]
  generalize (Mk (k + 1)).call = C at hC
  obtain ⟨s3', s4', e⟩ := fw_forO hC (ss := ss) hr hk
  have hl := row_len hr
  show endF _ (sCons _ _ [S0 ss, .ow .par r, .fz (.bl false), .un, .un]) = _
  rw [seq_next (ρ1 := [S0 ss, .ow .par r, .fz (.bl false), .un, .un]) (by rcases hr with rfl | rfl <;> simp [sCons, sSet, sRet, sNil, sIf, sSub, VE.tAnd, VE.tOr, VE.tNot, tCm, tE, xCmp, xIx, xBin, xBi, xOwn, xIte, xNeg, xTup, xLst, xCons, xNil, xACons, xANil, xVar, xC, Rs.bind, Rs.toF, Rs.of, Rf.of, deref, getSl, putI, VE.stI, mayStore, binD, binI, endF, outS, ixD, at40, at41, at42, at43, bi_len, bi_int, bi_abs, cm_eq, cm_lt, cm_gt, lend, lend1, atsOf, giveBack, findArg, comb, whole, truD, xAnd, xOr, xNot, xCmp2, xIsi, tyD, cm_le, cm_ge, comb_none, isi_NoneType_int, isi_NoneType_bool, isi_NoneType_tuple, isi_NoneType_str, isi_NoneType_list, isi_NoneType_seq, isi_bool_int, isi_bool_bool, isi_bool_tuple, isi_bool_str, isi_bool_list, isi_bool_seq, isi_int_int, isi_int_bool, isi_int_tuple, isi_int_str, isi_int_list, isi_int_seq, isi_str_int, isi_str_bool, isi_str_tuple, isi_str_str, isi_str_list, isi_str_seq, isi_tuple_int, isi_tuple_bool, isi_tuple_tuple, isi_tuple_str, isi_tuple_list, isi_tuple_seq, isi_list_int, isi_list_bool, isi_list_tuple, isi_list_str, isi_list_list, isi_list_seq, isi_dict_int, isi_dict_bool, isi_dict_tuple, isi_dict_str, isi_dict_list, isi_dict_seq])]
  cases q : fwL ss es 0 with
  | none =>
    rw [q] at e
    rw [seq_next e]
    have e1 : xBi "len" (xACons (xVar 1) xANil) [S0 ss, .ow .par r, .fz (.bl false), s3', s4'] = .ok (.va (.int es.length) false) [S0 ss, .ow .par r, .fz (.bl false), s3', s4'] := by
      simp [xBi, xACons, xANil, xVar, Rs.bind, Rs.of, deref, getSl, hl]
    have e2 : xBi "len" (xACons (xVar 0) xANil) [S0 ss, .ow .par r, .fz (.bl false), s3', s4'] = .ok (.va (.int ss.length) false) [S0 ss, .ow .par r, .fz (.bl false), s3', s4'] := by
      simp [xBi, xACons, xANil, xVar, Rs.bind, Rs.of, deref, getSl, bi_len]
    by_cases h : ss.length < es.length
    · have ef : firstW ss es = .int ss.length := by simp [firstW, q, h]
      rw [ef]
      have e3 : sRet (xIte (tCm (xCmp .Gt (xBi "len" (xACons (xVar 1) xANil)) (xBi "len" (xACons (xVar 0) xANil)))) (xBi "len" (xACons (xVar 0) xANil)) (xC (.non))) [S0 ss, .ow .par r, .fz (.bl false), s3', s4'] = .ret (.va (.int ss.length) false) [S0 ss, .ow .par r, .fz (.bl false), s3', s4'] := by
        simp [sRet, xIte, tCm, xCmp, e1, e2, Rs.bind, Rs.of, Rs.toF, deref, cm_gt, h]
      rw [seq_ret e3]
      rfl
    · have ef : firstW ss es = .non := by simp [firstW, q, h]
      rw [ef]
      have e3 : sRet (xIte (tCm (xCmp .Gt (xBi "len" (xACons (xVar 1) xANil)) (xBi "len" (xACons (xVar 0) xANil)))) (xBi "len" (xACons (xVar 0) xANil)) (xC (.non))) [S0 ss, .ow .par r, .fz (.bl false), s3', s4'] = .ret (.va .non false) [S0 ss, .ow .par r, .fz (.bl false), s3', s4'] := by
        simp [sRet, xIte, tCm, xCmp, e1, e2, Rs.bind, Rs.of, Rs.toF, deref, cm_gt, h, xC]
      rw [seq_ret e3]
      rfl
  | some j =>
    rw [q] at e
    rw [seq_ret e]
    have ef : firstW ss es = .int j := by simp [firstW, q]
    rw [ef]
    rfl
theorem c_fwrong0O (k : Nat) {ss : List Int} {r : D} (hr : noRow r = true) : (Mk (k + 2)).call "first_wrong" [S0 ss, .ow .par r, .fz (.bl false)] = .ret (.int 0) false [S0 ss, .ow .par r, .fz (.bl false)] := by
  rw [call_eq (k := k + 1) (e := e_first_wrong) rfl (mo_first_wrong (k + 1)) rfl rfl]
  have em : m_first_wrong (Mk (k + 1)).call = (sCons (sIf (VE.tNot (tE (xIsi (xVar 1) ["list", "tuple"]))) (sCons (sRet (xC (.int (0)))) sNil) sNil) (sCons (sFor (VE.iEnu (xVar 0)) (agT [3, 4]) (fwB (Mk (k + 1)).call)) (sCons (sRet (xIte (tCm (xCmp .Gt (xBi "len" (xACons (xVar 1) xANil)) (xBi "len" (xACons (xVar 0) xANil)))) (xBi "len" (xACons (xVar 0) xANil)) (xC (.non)))) sNil))) := rfl
  rw [em]
  generalize (Mk (k + 1)).call = C
  show endF _ (sCons _ _ [S0 ss, .ow .par r, .fz (.bl false), .un, .un]) = _
  have e1 : sIf (VE.tNot (tE (xIsi (xVar 1) ["list", "tuple"]))) (sCons (sRet (xC (.int (0)))) sNil) sNil [S0 ss, .ow .par r, .fz (.bl false), .un, .un] = .ret (.va (.int 0) false) [S0 ss, .ow .par r, .fz (.bl false), .un, .un] := by
    cases r <;> first | (cases hr; done) | simp [sCons, sSet, sRet, sNil, sIf, sSub, VE.tAnd, VE.tOr, VE.tNot, tCm, tE, xCmp, xIx, xBin, xBi, xOwn, xIte, xNeg, xTup, xLst, xCons, xNil, xACons, xANil, xVar, xC, Rs.bind, Rs.toF, Rs.of, Rf.of, deref, getSl, putI, VE.stI, mayStore, binD, binI, endF, outS, ixD, at40, at41, at42, at43, bi_len, bi_int, bi_abs, cm_eq, cm_lt, cm_gt, lend, lend1, atsOf, giveBack, findArg, comb, whole, truD, xAnd, xOr, xNot, xCmp2, xIsi, tyD, cm_le, cm_ge, comb_none, isi_NoneType_int, isi_NoneType_bool, isi_NoneType_tuple, isi_NoneType_str, isi_NoneType_list, isi_NoneType_seq, isi_bool_int, isi_bool_bool, isi_bool_tuple, isi_bool_str, isi_bool_list, isi_bool_seq, isi_int_int, isi_int_bool, isi_int_tuple, isi_int_str, isi_int_list, isi_int_seq, isi_str_int, isi_str_bool, isi_str_tuple, isi_str_str, isi_str_list, isi_str_seq, isi_tuple_int, isi_tuple_bool, isi_tuple_tuple, isi_tuple_str, isi_tuple_list, isi_tuple_seq, isi_list_int, isi_list_bool, isi_list_tuple, isi_list_str, isi_list_list, isi_list_seq, isi_dict_int, isi_dict_bool, isi_dict_tuple, isi_dict_str, isi_dict_list, isi_dict_seq]
  rw [seq_ret e1]
  rfl
theorem c_isfilO (k : Nat) {ss : List Int} {r : D} (hr : okRow r) : (Mk (k + 3)).call "is_filling" [S0 ss, .ow .par r] = .ret (.bl (isFr ss r)) false [S0 ss, .ow .par r] := by
  rw [call_eq (k := k + 2) (e := e_is_filling) rfl (mo_is_filling (k + 2)) rfl rfl]
  have key : ∃ d, (Mk (k + 2)).call "first_wrong" [S0 ss, .ow .par r, .fz (.bl false)] = .ret d false [S0 ss, .ow .par r, .fz (.bl false)] ∧ isNonD d = isFr ss r := by
    cases r with
    | tup es => exact ⟨_, c_fwrongO k (.inl rfl) hr, rfl⟩
    | lst es => exact ⟨_, c_fwrongO k (.inr rfl) hr, rfl⟩
    | _ => exact ⟨_, c_fwrong0O k hr, rfl⟩
  obtain ⟨d, e, hd⟩ := key
  have em : m_is_filling (Mk (k + 2)).call = (sCons (sRet (xCmp .Is (xOwn ((Mk (k + 2)).call "first_wrong") [.bl false] (xACons (xVar 0) (xACons (xVar 1) xANil))) (xC (.non)))) sNil) := rfl
  rw [em]
  generalize (Mk (k + 2)).call = C at e ⊢
  have ex : xOwn (C "first_wrong") [.bl false] (xACons (xVar 0) (xACons (xVar 1) xANil)) [S0 ss, .ow .par r] = .ok (.va d false) [S0 ss, .ow .par r] := xOwn_ok (bs := [.at 0, .at 1]) rfl rfl e rfl
  have er : sRet (xCmp .Is (xOwn (C "first_wrong") [.bl false] (xACons (xVar 0) (xACons (xVar 1) xANil))) (xC (.non))) [S0 ss, .ow .par r] = .ret (.va (.bl (isFr ss r)) false) [S0 ss, .ow .par r] := by
    simp [sRet, xCmp, ex, Rs.bind, Rs.of, Rs.toF, deref, xC, is_non, hd]
  show endF _ (sCons _ _ [S0 ss, .ow .par r]) = _
  rw [seq_ret er]
  rfl
theorem lif_loopO {C : Str → List Sl → Cr} (hC : ∀ (d : D) (h : Int), kd d = true → C "_law_whole" [.fz d, .fz (.int 0), .fz (.int h)] = .ret (.bl (wh d 0 h)) false [.fz d, .fz (.int 0), .fz (.int h)]) {r : D} {all : List D} {sal : List Int} (hr : IsRow r all) (hk : ∀ e ∈ all, kd e = true) :
    ∀ (ss : List Int) (es pre : List D) (spre : List Int) (acc : List D), all = pre ++ es → sal = spre ++ ss → spre.length = pre.length → es.length = ss.length → acc.length + ss.length ≤ 1000 →
    ∃ l, loopC [2] (agI 2) (lifT C) (xVar 2) (rngD pre.length ss.length) acc [S0 sal, .ow .par r, .un] = .ok (acc ++ l) [S0 sal, .ow .par r, .un] ∧ l.isEmpty = allW ss es
  | [], [], pre, spre, acc, _, _, _, _, _ => ⟨[], by simp [rngD, loopC], rfl⟩
  | [], _ :: _, _, _, _, _, _, _, h, _ => by cases h
  | _ :: _, [], _, _, _, _, _, _, h, _ => by cases h
  | s :: ss, e :: es, pre, spre, acc, ha, hs, hp, hl, hz => by
    have hz' : acc.length + (ss.length + 1) ≤ 1000 := hz
    have hix : ixD r (.int (pre.length : Int)) = some e := row_ix (by rw [← ha]; exact hr)
    have hsx : L2.atI (IL sal) (pre.length : Int) = some (.int s) := by
      rw [hs]
      show L2.atI ((spre ++ s :: ss).map D.int) _ = _
      rw [List.map_append, List.map_cons]
      exact atI_mid _ _ _ _ (by simp [hp])
    have hw := hC e (s - 1) (hk e (by rw [ha]; simp))
    have ea : agI 2 (.int pre.length) [S0 sal, .ow .par r, .un] = some [S0 sal, .ow .par r, .fz (.int pre.length)] := rfl
    have e0 : xIx (xVar 1) (xVar 2) [S0 sal, .ow .par r, .fz (.int pre.length)] = .ok (.va e false) [S0 sal, .ow .par r, .fz (.int pre.length)] := by
      simp [xIx, xVar, Rs.bind, Rs.of, deref, getSl, hix]
    have e1 : xIx (xVar 0) (xVar 2) [S0 sal, .ow .par r, .fz (.int pre.length)] = .ok (.va (.int s) false) [S0 sal, .ow .par r, .fz (.int pre.length)] := by
      simp [xIx, xVar, Rs.bind, Rs.of, deref, getSl, ixD, hsx]
    have ex : xOwn (C "_law_whole") [] (xACons (xIx (xVar 1) (xVar 2)) (xACons (xC (.int (0))) (xACons (xBin .Sub (xIx (xVar 0) (xVar 2)) (xC (.int (1)))) xANil))) [S0 sal, .ow .par r, .fz (.int pre.length)] = .ok (.va (.bl (wh e 0 (s - 1))) false) [S0 sal, .ow .par r, .fz (.int pre.length)] := by
      refine xOwn_ok (bs := [.va e false, .va (.int 0) false, .va (.int (s - 1)) false]) ?_ rfl hw (give_no rfl)
      simp [xACons, xANil, xBin, e0, e1, Rs.bind, xC, Rs.of, deref, binD, binI]
    have et : lifT C [S0 sal, .ow .par r, .fz (.int pre.length)] = .ok (!wh e 0 (s - 1)) [S0 sal, .ow .par r, .fz (.int pre.length)] := by
      unfold lifT VE.tNot tE
      rw [ex]
      rfl
    have ha2 : all = (pre ++ [e]) ++ es := by rw [ha]; simp
    have hs2 : sal = (spre ++ [s]) ++ ss := by rw [hs]; simp
    have hpl : (pre ++ [e]).length = pre.length + 1 := by simp
    have hl2 : es.length = ss.length := by simpa using hl
    have er : rngD (pre.length : Int) (s :: ss).length = .int pre.length :: rngD ((pre.length + 1 : Nat) : Int) ss.length := by
      rw [List.length_cons, rng_succ]
      rfl
    have ew : wipeR [2] [S0 sal, .ow .par r, .fz (.int (pre.length : Int))] = [S0 sal, .ow .par r, .un] := rfl
    rw [er]
    by_cases h : wh e 0 (s - 1) = true
    · obtain ⟨l, ih, hi⟩ := lif_loopO hC hr hk ss es (pre ++ [e]) (spre ++ [s]) acc ha2 hs2 (by simp [hp]) hl2 (by omega)
      rw [hpl] at ih
      refine ⟨l, ?_, by rw [hi]; simp [allW, h]⟩
      rw [loopC, ea]
      simp only [et, h, Bool.not_true, Bool.false_eq_true, if_false, ew]
      exact ih
    · have h' : wh e 0 (s - 1) = false := by simpa using h
      obtain ⟨l, ih, hi⟩ := lif_loopO hC hr hk ss es (pre ++ [e]) (spre ++ [s]) (acc ++ [.int pre.length]) ha2 hs2 (by simp [hp]) hl2 (by rw [List.length_append, List.length_singleton]; omega)
      rw [hpl] at ih
      refine ⟨.int pre.length :: l, ?_, by simp [allW, h']⟩
      have gs : acc.length < sizeLine := by rw [sizeLine_eq]; omega
      have ev : xVar 2 [S0 sal, .ow .par r, .fz (.int (pre.length : Int))] = .ok (.va (.int pre.length) false) [S0 sal, .ow .par r, .fz (.int pre.length)] := rfl
      rw [loopC, ea]
      simp only [et, h', Bool.not_false, if_true, ev, whole]
      rw [if_pos (decide_eq_true gs), ew, ih, List.append_assoc]
      rfl
theorem c_lisfilO (k : Nat) {ss : List Int} (hs : ss.length ≤ 6) {r : D} (hr : okRow r) : (Mk (k + 2)).call "_law_is_filling" [S0 ss, .ow .par r] = .ret (.bl (isFr ss r)) false [S0 ss, .ow .par r] := by
  rw [call_eq (k := k + 1) (e := e__law_is_filling) rfl (mo__law_is_filling (k + 1)) rfl rfl]
  have hC : ∀ (d : D) (h : Int), kd d = true → (Mk (k + 1)).call "_law_whole" [.fz d, .fz (.int 0), .fz (.int h)] = .ret (.bl (wh d 0 h)) false [.fz d, .fz (.int 0), .fz (.int h)] := fun d h hd => c_whole k hd
  have em : m__law_is_filling (Mk (k + 1)).call = (sCons (sIf (VE.tOr (VE.tNot (tE (xIsi (xVar 1) ["list", "tuple"]))) (tCm (xCmp .NotEq (xBi "len" (xACons (xVar 1) xANil)) (xBi "len" (xACons (xVar 0) xANil))))) (sCons (sRet (xC (.bl false))) sNil) sNil) (sCons (sRet (xNot (xComp [2] (VE.iRng1 (xBi "len" (xACons (xVar 0) xANil))) (agI 2) (lifT (Mk (k + 1)).call) (xVar 2)))) sNil)) := rfl
  rw [em]
  generalize (Mk (k + 1)).call = C at hC
  show endF _ (sCons _ _ [S0 ss, .ow .par r, .un]) = _
  have no : isFr ss r = false → sIf (VE.tOr (VE.tNot (tE (xIsi (xVar 1) ["list", "tuple"]))) (tCm (xCmp .NotEq (xBi "len" (xACons (xVar 1) xANil)) (xBi "len" (xACons (xVar 0) xANil))))) (sCons (sRet (xC (.bl false))) sNil) sNil [S0 ss, .ow .par r, .un] = .ret (.va (.bl false) false) [S0 ss, .ow .par r, .un] → endF [S0 ss, .ow .par r] (sCons (sIf (VE.tOr (VE.tNot (tE (xIsi (xVar 1) ["list", "tuple"]))) (tCm (xCmp .NotEq (xBi "len" (xACons (xVar 1) xANil)) (xBi "len" (xACons (xVar 0) xANil))))) (sCons (sRet (xC (.bl false))) sNil) sNil) (sCons (sRet (xNot (xComp [2] (VE.iRng1 (xBi "len" (xACons (xVar 0) xANil))) (agI 2) (lifT C) (xVar 2)))) sNil) [S0 ss, .ow .par r, .un]) = .ret (.bl (isFr ss r)) false [S0 ss, .ow .par r] := fun h e => by
    rw [seq_ret e, h]
    rfl
  have row : ∀ {es : List D}, IsRow r es → (∀ e ∈ es, kd e = true) → isFr ss r = isF ss es → endF [S0 ss, .ow .par r] (sCons (sIf (VE.tOr (VE.tNot (tE (xIsi (xVar 1) ["list", "tuple"]))) (tCm (xCmp .NotEq (xBi "len" (xACons (xVar 1) xANil)) (xBi "len" (xACons (xVar 0) xANil))))) (sCons (sRet (xC (.bl false))) sNil) sNil) (sCons (sRet (xNot (xComp [2] (VE.iRng1 (xBi "len" (xACons (xVar 0) xANil))) (agI 2) (lifT C) (xVar 2)))) sNil) [S0 ss, .ow .par r, .un]) = .ret (.bl (isFr ss r)) false [S0 ss, .ow .par r] := fun {es} hro hk hf => by
    have hl := row_len hro
    have e1 : xBi "len" (xACons (xVar 1) xANil) [S0 ss, .ow .par r, .un] = .ok (.va (.int es.length) false) [S0 ss, .ow .par r, .un] := by
      simp [xBi, xACons, xANil, xVar, Rs.bind, Rs.of, deref, getSl, hl]
    have e2 : xBi "len" (xACons (xVar 0) xANil) [S0 ss, .ow .par r, .un] = .ok (.va (.int ss.length) false) [S0 ss, .ow .par r, .un] := by
      simp [xBi, xACons, xANil, xVar, Rs.bind, Rs.of, deref, getSl, bi_len]
    have e3 : xIsi (xVar 1) ["list", "tuple"] [S0 ss, .ow .par r, .un] = .ok (.va (.bl true) false) [S0 ss, .ow .par r, .un] := by
      rcases hro with rfl | rfl <;> simp [sCons, sSet, sRet, sNil, sIf, sSub, VE.tAnd, VE.tOr, VE.tNot, tCm, tE, xCmp, xIx, xBin, xBi, xOwn, xIte, xNeg, xTup, xLst, xCons, xNil, xACons, xANil, xVar, xC, Rs.bind, Rs.toF, Rs.of, Rf.of, deref, getSl, putI, VE.stI, mayStore, binD, binI, endF, outS, ixD, at40, at41, at42, at43, bi_len, bi_int, bi_abs, cm_eq, cm_lt, cm_gt, lend, lend1, atsOf, giveBack, findArg, comb, whole, truD, xAnd, xOr, xNot, xCmp2, xIsi, tyD, cm_le, cm_ge, comb_none, isi_NoneType_int, isi_NoneType_bool, isi_NoneType_tuple, isi_NoneType_str, isi_NoneType_list, isi_NoneType_seq, isi_bool_int, isi_bool_bool, isi_bool_tuple, isi_bool_str, isi_bool_list, isi_bool_seq, isi_int_int, isi_int_bool, isi_int_tuple, isi_int_str, isi_int_list, isi_int_seq, isi_str_int, isi_str_bool, isi_str_tuple, isi_str_str, isi_str_list, isi_str_seq, isi_tuple_int, isi_tuple_bool, isi_tuple_tuple, isi_tuple_str, isi_tuple_list, isi_tuple_seq, isi_list_int, isi_list_bool, isi_list_tuple, isi_list_str, isi_list_list, isi_list_seq, isi_dict_int, isi_dict_bool, isi_dict_tuple, isi_dict_str, isi_dict_list, isi_dict_seq]
    rw [isF_eq] at hf
    by_cases h : es.length = ss.length
    · rw [decide_eq_true h, Bool.true_and] at hf
      have c1 : sIf (VE.tOr (VE.tNot (tE (xIsi (xVar 1) ["list", "tuple"]))) (tCm (xCmp .NotEq (xBi "len" (xACons (xVar 1) xANil)) (xBi "len" (xACons (xVar 0) xANil))))) (sCons (sRet (xC (.bl false))) sNil) sNil [S0 ss, .ow .par r, .un] = .next [S0 ss, .ow .par r, .un] := by
        simp [sIf, VE.tOr, VE.tNot, tE, tCm, xCmp, e1, e2, e3, Rs.bind, Rs.of, Rs.toF, deref, truD, cm_ne, h, sNil]
      rw [seq_next c1]
      obtain ⟨l, el, hi⟩ := lif_loopO hC (sal := ss) hro hk ss es [] [] [] rfl rfl rfl h (by simp; omega)
      have ei := rng1_ok (a := xBi "len" (xACons (xVar 0) xANil)) (N := ss.length) e2 (small_of (by omega) (by omega))
      rw [Int.toNat_natCast] at ei
      have ec : xComp [2] (VE.iRng1 (xBi "len" (xACons (xVar 0) xANil))) (agI 2) (lifT C) (xVar 2) [S0 ss, .ow .par r, .un] = .ok (.va (.lst l) true) [S0 ss, .ow .par r, .un] := by
        unfold xComp
        rw [ei]
        simp only [Rs.bind]
        rw [if_pos (by simp [lockAll, flatSl])]
        have ew : wipeR [2] (lockAll [] [S0 ss, .ow .par r, .un]) = [S0 ss, .ow .par r, .un] := rfl
        have el' : loopC [2] (agI 2) (lifT C) (xVar 2) (rngD 0 ss.length) [] [S0 ss, .ow .par r, .un] = .ok l [S0 ss, .ow .par r, .un] := el
        rw [ew, el']
        rfl
      have er : sRet (xNot (xComp [2] (VE.iRng1 (xBi "len" (xACons (xVar 0) xANil))) (agI 2) (lifT C) (xVar 2))) [S0 ss, .ow .par r, .un] = .ret (.va (.bl (isFr ss r)) false) [S0 ss, .ow .par r, .un] := by
        unfold sRet xNot
        rw [ec]
        simp only [Rs.bind, Rs.of, Rs.toF, deref, truD, Option.bind_some, Option.map_some, Bool.not_not, hi]
        rw [hf]
      rw [seq_ret er]
      rfl
    · rw [decide_eq_false h, Bool.false_and] at hf
      have c1 : sIf (VE.tOr (VE.tNot (tE (xIsi (xVar 1) ["list", "tuple"]))) (tCm (xCmp .NotEq (xBi "len" (xACons (xVar 1) xANil)) (xBi "len" (xACons (xVar 0) xANil))))) (sCons (sRet (xC (.bl false))) sNil) sNil [S0 ss, .ow .par r, .un] = .ret (.va (.bl false) false) [S0 ss, .ow .par r, .un] := by
        have h' : ¬ ((es.length : Int) = ss.length) := by omega
        simp [sIf, VE.tOr, VE.tNot, tE, tCm, xCmp, e1, e2, e3, Rs.bind, Rs.of, Rs.toF, deref, truD, cm_ne, h', sNil, sCons, sRet, xC]
      exact no hf c1
  cases r with
  | tup es => exact row (.inl rfl) hr rfl
  | lst es => exact row (.inr rfl) hr rfl
  | scr _ => cases hr
  | obj _ _ => cases hr
  | _ => exact no rfl (by simp [sCons, sSet, sRet, sNil, sIf, sSub, VE.tAnd, VE.tOr, VE.tNot, tCm, tE, xCmp, xIx, xBin, xBi, xOwn, xIte, xNeg, xTup, xLst, xCons, xNil, xACons, xANil, xVar, xC, Rs.bind, Rs.toF, Rs.of, Rf.of, deref, getSl, putI, VE.stI, mayStore, binD, binI, endF, outS, ixD, at40, at41, at42, at43, bi_len, bi_int, bi_abs, cm_eq, cm_lt, cm_gt, lend, lend1, atsOf, giveBack, findArg, comb, whole, truD, xAnd, xOr, xNot, xCmp2, xIsi, tyD, cm_le, cm_ge, comb_none, isi_NoneType_int, isi_NoneType_bool, isi_NoneType_tuple, isi_NoneType_str, isi_NoneType_list, isi_NoneType_seq, isi_bool_int, isi_bool_bool, isi_bool_tuple, isi_bool_str, isi_bool_list, isi_bool_seq, isi_int_int, isi_int_bool, isi_int_tuple, isi_int_str, isi_int_list, isi_int_seq, isi_str_int, isi_str_bool, isi_str_tuple, isi_str_str, isi_str_list, isi_str_seq, isi_tuple_int, isi_tuple_bool, isi_tuple_tuple, isi_tuple_str, isi_tuple_list, isi_tuple_seq, isi_list_int, isi_list_bool, isi_list_tuple, isi_list_str, isi_list_list, isi_list_seq, isi_dict_int, isi_dict_bool, isi_dict_tuple, isi_dict_str, isi_dict_list, isi_dict_seq])
theorem num_loopO {s0 : Sl} {r : D} {all : List D} (hr : IsRow r all) : ∀ (ss : List Int) (es pre : List D) (a : Int) (n : Nat) (s3 s4 : Sl), all = pre ++ es → Ms s3 → Ms s4 → es.length = ss.length → allW ss es = true → (∀ x ∈ ss, 0 < x ∧ x ≤ 40) → a.natAbs < 2 ^ n → 0 < n → n + 7 * ss.length ≤ 1000 →
    ∃ s3' s4', loopF (agT [3, 4]) numB (enF pre.length ss) [s0, .ow .par r, .fz (.int a), s3, s4] = .next [s0, .ow .par r, .fz (.int (numb ss es a)), s3', s4']
  | [], [], pre, a, n, s3, s4, _, _, _, _, _, _, _, _, _ => ⟨s3, s4, by simp [enF, loopF, numb]⟩
  | [], _ :: _, _, _, _, _, _, _, _, _, h, _, _, _, _, _ => by cases h
  | _ :: _, [], _, _, _, _, _, _, _, _, h, _, _, _, _, _ => by cases h
  | s :: ss, e :: es, pre, a, n, s3, s4, ha, m3, m4, hl, hw, hb, hn, hn0, hz => by
    have hz' : n + 7 * (ss.length + 1) ≤ 1000 := hz
    obtain ⟨w1, w2⟩ := Bool.and_eq_true_iff.mp (show (wh e 0 (s - 1) && allW ss es) = true from hw)
    obtain ⟨x, rfl, x0, x1⟩ := wh_int w1
    have hs := hb s List.mem_cons_self
    have g : mulOk a s = true := mulOk_of n 6 hn (by omega) hn0 (by decide) (by omega)
    have hix : ixD r (.int (pre.length : Int)) = some (.int x) := row_ix (by rw [← ha]; exact hr)
    have ha2 : all = (pre ++ [.int x]) ++ es := by rw [ha]; simp
    have hpl : (pre ++ [D.int x]).length = pre.length + 1 := by simp
    obtain ⟨s3', s4', ih⟩ := num_loopO (s0 := s0) hr ss es (pre ++ [.int x]) (a * s + x) (n + 7) (.fz (.int pre.length)) (.fz (.int s)) ha2 rfl rfl (by simpa using hl) w2 (fun y hy => hb y (List.mem_cons_of_mem _ hy)) (num_bits hn hs ⟨x0, x1⟩) (by omega) (by omega)
    rw [hpl] at ih
    refine ⟨s3', s4', ?_⟩
    have ea := agT2 (s0 := s0) (s1 := .ow .par r) (s2 := .fz (.int a)) (a := .int (pre.length : Int)) (b := .int s) m3 m4
    have ei : xIx (xVar 1) (xVar 3) [s0, .ow .par r, .fz (.int a), .fz (.int pre.length), .fz (.int s)] = .ok (.va (.int x) false) [s0, .ow .par r, .fz (.int a), .fz (.int pre.length), .fz (.int s)] := by
      simp [xIx, xVar, Rs.bind, Rs.of, deref, getSl, hix]
    have eb : numB [s0, .ow .par r, .fz (.int a), .fz (.int pre.length), .fz (.int s)] = .next [s0, .ow .par r, .fz (.int (a * s + x)), .fz (.int pre.length), .fz (.int s)] := by
      have e1 : xBin .Add (xBin .Mult (xVar 2) (xVar 4)) (xIx (xVar 1) (xVar 3)) [s0, .ow .par r, .fz (.int a), .fz (.int pre.length), .fz (.int s)] = .ok (.va (.int (a * s + x)) false) [s0, .ow .par r, .fz (.int a), .fz (.int pre.length), .fz (.int s)] := by
        simp [xBin, ei, xVar, Rs.bind, Rs.of, deref, binD, binI, g]
      unfold numB sCons sSet
      rw [e1]
      rfl
    show (match agT [3, 4] (.tup [.int pre.length, .int s]) [s0, .ow .par r, .fz (.int a), s3, s4] with
      | none => Rf.stuck
      | some ρ1 => (match numB ρ1 with
        | .next ρ2 => loopF (agT [3, 4]) numB (enF (pre.length + 1) ss) ρ2
        | .cnt ρ2 => loopF (agT [3, 4]) numB (enF (pre.length + 1) ss) ρ2
        | .brk ρ2 => .next ρ2
        | r => r)) = _
    rw [ea]
    simp only [eb]
    exact ih
theorem c_fnumO (k : Nat) {ss : List Int} (ok : SOk ss) {r : D} (hr : okRow r) : (Mk (k + 4)).call "filling_number" [S0 ss, .ow .par r] = if isFr ss r then .ret (.int (numb ss (rowOf r) 0)) false [S0 ss, .ow .par r] else .exc (Str.ofString "NoFilling") [(Str.ofString "thing", r)] [S0 ss, .pz r] := by
  rw [call_eq (k := k + 3) (e := e_filling_number) rfl (mo_filling_number (k + 3)) rfl rfl]
  have e1 := c_isfilO k (ss := ss) hr
  have hl := ok.l
  have em : m_filling_number (Mk (k + 3)).call = (sCons (sIf (VE.tNot (tE (xOwn ((Mk (k + 3)).call "is_filling") [] (xACons (xVar 0) (xACons (xVar 1) xANil))))) (sCons (sRaise "NoFilling" (LawP.prg.tab.mkx "NoFilling") (xCons (xVar 1) xNil)) sNil) sNil) (sCons (sSet 2 (xC (.int (0)))) (sCons (sFor (VE.iEnu (xVar 0)) (agT [3, 4]) numB) (sCons (sRet (xVar 2)) sNil)))) := rfl
  rw [em]
  generalize (Mk (k + 3)).call = C at e1
  have ex : xOwn (C "is_filling") [] (xACons (xVar 0) (xACons (xVar 1) xANil)) [S0 ss, .ow .par r, .un, .un, .un] = .ok (.va (.bl (isFr ss r)) false) [S0 ss, .ow .par r, .un, .un, .un] := xOwn_ok (bs := [.at 0, .at 1]) rfl rfl e1 rfl
  show endF _ (sCons _ _ [S0 ss, .ow .par r, .un, .un, .un]) = _
  by_cases h : isFr ss r = true
  · rw [if_pos h]
    rw [h] at ex
    obtain ⟨hro, hlen, hw⟩ := isFr_row h
    have c1 : sIf (VE.tNot (tE (xOwn (C "is_filling") [] (xACons (xVar 0) (xACons (xVar 1) xANil))))) (sCons (sRaise "NoFilling" (LawP.prg.tab.mkx "NoFilling") (xCons (xVar 1) xNil)) sNil) sNil [S0 ss, .ow .par r, .un, .un, .un] = .next [S0 ss, .ow .par r, .un, .un, .un] := by
      unfold sIf VE.tNot tE
      rw [ex]
      rfl
    rw [seq_next c1]
    rw [seq_next (a := sSet 2 (xC (.int (0)))) (ρ := [S0 ss, .ow .par r, .un, .un, .un]) (ρ1 := [S0 ss, .ow .par r, .fz (.int 0), .un, .un]) rfl]
    obtain ⟨s3', s4', el⟩ := num_loopO (s0 := .ow .lck (.lst (IL ss))) hro ss (rowOf r) [] 0 1 .un .un rfl rfl rfl hlen hw ok.b (by decide) (by decide) (by omega)
    have ef : sFor (VE.iEnu (xVar 0)) (agT [3, 4]) numB [S0 ss, .ow .par r, .fz (.int 0), .un, .un] = .next [S0 ss, .ow .par r, .fz (.int (numb ss (rowOf r) 0)), s3', s4'] := by
      have ei : VE.iEnu (xVar 0) [S0 ss, .ow .par r, .fz (.int 0), .un, .un] = .ok (enF 0 ss, [(0, .par)]) [S0 ss, .ow .par r, .fz (.int 0), .un, .un] := by
        rw [← enum_eq]
        rfl
      unfold sFor
      rw [ei]
      exact congrArg (Rf.map (unlockAll [(0, .par)])) el
    rw [seq_next ef]
    rfl
  · have h' : isFr ss r = false := by simpa using h
    rw [if_neg h]
    rw [h'] at ex
    have c1 : sIf (VE.tNot (tE (xOwn (C "is_filling") [] (xACons (xVar 0) (xACons (xVar 1) xANil))))) (sCons (sRaise "NoFilling" (LawP.prg.tab.mkx "NoFilling") (xCons (xVar 1) xNil)) sNil) sNil [S0 ss, .ow .par r, .un, .un, .un] = .exc (Str.ofString "NoFilling") [(Str.ofString "thing", r)] [S0 ss, .pz r, .un, .un, .un] := by
      unfold sIf VE.tNot tE
      rw [ex]
      rfl
    rw [seq_exc c1]
    rfl
theorem try_excO {C : Str → List Sl → Cr} {f : Str} {s0 : Sl} {r : D} (hC : xOwn (C f) [] (xACons (xVar 0) (xACons (xVar 1) xANil)) [s0, .ow .par r, .un, .un] = .exc (Str.ofString "NoFilling") [(Str.ofString "thing", r)] [s0, .pz r, .un, .un]) :
    sTry (fun x => LawP.prg.tab.isx x "NoFilling") 2 (sCons (sSet 3 (xOwn (C f) [] (xACons (xVar 0) (xACons (xVar 1) xANil)))) sNil) (qSet 3 (qLst (qCons (qFld LawP.prg.tab.fok "thing") qNil))) [s0, .ow .par r, .un, .un] = .next [s0, .pz r, .un, .fz (.lst [r])] := by
  unfold sTry sCons sSet
  rw [hC]
  rfl
theorem try_retO {C : Str → List Sl → Cr} {f : Str} {s0 : Sl} {r d : D} (hC : xOwn (C f) [] (xACons (xVar 0) (xACons (xVar 1) xANil)) [s0, .ow .par r, .un, .un] = .ok (.va d false) [s0, .ow .par r, .un, .un]) :
    sTry (fun x => LawP.prg.tab.isx x "NoFilling") 2 (sCons (sSet 3 (xOwn (C f) [] (xACons (xVar 0) (xACons (xVar 1) xANil)))) sNil) (qSet 3 (qLst (qCons (qFld LawP.prg.tab.fok "thing") qNil))) [s0, .ow .par r, .un, .un] = .next [s0, .ow .par r, .un, .fz d] := by
  unfold sTry sCons sSet
  rw [hC]
  rfl
theorem c_itsO (k : Nat) {ss : List Int} (ok : SOk ss) {r : D} (hr : okRow r) : (Mk (k + 5)).call "_law_its_number" [S0 ss, .ow .par r] = .ret (itsN ss r) false [S0 ss, if isFr ss r then .ow .par r else .pz r] := by
  rw [call_eq (k := k + 4) (e := e__law_its_number) rfl (mo__law_its_number (k + 4)) rfl rfl]
  have e1 := c_fnumO k ok hr
  have em : m__law_its_number (Mk (k + 4)).call = (sCons (sTry (fun x => LawP.prg.tab.isx x "NoFilling") 2 (sCons (sSet 3 (xOwn ((Mk (k + 4)).call "filling_number") [] (xACons (xVar 0) (xACons (xVar 1) xANil)))) sNil) (qSet 3 (qLst (qCons (qFld LawP.prg.tab.fok "thing") qNil)))) (sCons (sRet (xVar 3)) sNil)) := rfl
  rw [em]
  generalize (Mk (k + 4)).call = C at e1
  show endF _ (sCons _ _ [S0 ss, .ow .par r, .un, .un]) = _
  by_cases h : isFr ss r = true
  · rw [if_pos h] at e1
    have ex : xOwn (C "filling_number") [] (xACons (xVar 0) (xACons (xVar 1) xANil)) [S0 ss, .ow .par r, .un, .un] = .ok (.va (.int (numb ss (rowOf r) 0)) false) [S0 ss, .ow .par r, .un, .un] := xOwn_ok (bs := [.at 0, .at 1]) rfl rfl e1 rfl
    rw [seq_next (try_retO ex), itsN, if_pos h, if_pos h]
    rfl
  · rw [if_neg h] at e1
    have ex : xOwn (C "filling_number") [] (xACons (xVar 0) (xACons (xVar 1) xANil)) [S0 ss, .ow .par r, .un, .un] = .exc (Str.ofString "NoFilling") [(Str.ofString "thing", r)] [S0 ss, .pz r, .un, .un] := xOwn_exc (bs := [.at 0, .at 1]) rfl rfl e1 rfl
    rw [seq_next (try_excO ex), itsN, if_neg h, if_neg h]
    rfl
theorem lnum_loopO {sal : List Int} {r : D} {all : List D} (hr : IsRow r all) : ∀ (ss : List Int) (es pre : List D) (spre : List Int) (a : Int) (n : Nat) (s3 : Sl), all = pre ++ es → sal = spre ++ ss → spre.length = pre.length → Ms s3 → es.length = ss.length → allW ss es = true → (∀ x ∈ ss, 0 < x ∧ x ≤ 40) → a.natAbs < 2 ^ n → 0 < n → n + 7 * ss.length ≤ 1000 →
    ∃ s3', loopF (agI 3) lnumB (rngD pre.length ss.length) [S0 sal, .ow .par r, .fz (.int a), s3] = .next [S0 sal, .ow .par r, .fz (.int (numb ss es a)), s3']
  | [], [], pre, spre, a, n, s3, _, _, _, _, _, _, _, _, _, _ => ⟨s3, by simp [rngD, loopF, numb]⟩
  | [], _ :: _, _, _, _, _, _, _, _, _, _, h, _, _, _, _, _ => by cases h
  | _ :: _, [], _, _, _, _, _, _, _, _, _, h, _, _, _, _, _ => by cases h
  | s :: ss, e :: es, pre, spre, a, n, s3, ha, hs', hp, m3, hl, hw, hb, hn, hn0, hz => by
    have hz' : n + 7 * (ss.length + 1) ≤ 1000 := hz
    obtain ⟨w1, w2⟩ := Bool.and_eq_true_iff.mp (show (wh e 0 (s - 1) && allW ss es) = true from hw)
    obtain ⟨x, rfl, x0, x1⟩ := wh_int w1
    have hs := hb s List.mem_cons_self
    have g : mulOk a s = true := mulOk_of n 6 hn (by omega) hn0 (by decide) (by omega)
    have hix : ixD r (.int (pre.length : Int)) = some (.int x) := row_ix (by rw [← ha]; exact hr)
    have hsx : L2.atI (IL sal) (pre.length : Int) = some (.int s) := by
      rw [hs']
      show L2.atI ((spre ++ s :: ss).map D.int) _ = _
      rw [List.map_append, List.map_cons]
      exact atI_mid _ _ _ _ (by simp [hp])
    have ha2 : all = (pre ++ [.int x]) ++ es := by rw [ha]; simp
    have hs2 : sal = (spre ++ [s]) ++ ss := by rw [hs']; simp
    have hpl : (pre ++ [D.int x]).length = pre.length + 1 := by simp
    obtain ⟨s3', ih⟩ := lnum_loopO hr ss es (pre ++ [.int x]) (spre ++ [s]) (a * s + x) (n + 7) (.fz (.int pre.length)) ha2 hs2 (by simp [hp]) rfl (by simpa using hl) w2 (fun y hy => hb y (List.mem_cons_of_mem _ hy)) (num_bits hn hs ⟨x0, x1⟩) (by omega) (by omega)
    rw [hpl] at ih
    refine ⟨s3', ?_⟩
    have ea : agI 3 (.int pre.length) [S0 sal, .ow .par r, .fz (.int a), s3] = some [S0 sal, .ow .par r, .fz (.int a), .fz (.int pre.length)] := by
      unfold agI VE.stI
      exact if_pos m3
    have e0 : xIx (xVar 1) (xVar 3) [S0 sal, .ow .par r, .fz (.int a), .fz (.int pre.length)] = .ok (.va (.int x) false) [S0 sal, .ow .par r, .fz (.int a), .fz (.int pre.length)] := by
      simp [xIx, xVar, Rs.bind, Rs.of, deref, getSl, hix]
    have e1 : xIx (xVar 0) (xVar 3) [S0 sal, .ow .par r, .fz (.int a), .fz (.int pre.length)] = .ok (.va (.int s) false) [S0 sal, .ow .par r, .fz (.int a), .fz (.int pre.length)] := by
      simp [xIx, xVar, Rs.bind, Rs.of, deref, getSl, ixD, hsx]
    have eb : lnumB [S0 sal, .ow .par r, .fz (.int a), .fz (.int pre.length)] = .next [S0 sal, .ow .par r, .fz (.int (a * s + x)), .fz (.int pre.length)] := by
      have e2 : xBin .Add (xBin .Mult (xVar 2) (xIx (xVar 0) (xVar 3))) (xIx (xVar 1) (xVar 3)) [S0 sal, .ow .par r, .fz (.int a), .fz (.int pre.length)] = .ok (.va (.int (a * s + x)) false) [S0 sal, .ow .par r, .fz (.int a), .fz (.int pre.length)] := by
        simp [xBin, e0, e1, xVar, Rs.bind, Rs.of, deref, binD, binI, g]
      unfold lnumB sCons sSet
      rw [e2]
      rfl
    have er : rngD (pre.length : Int) (s :: ss).length = .int pre.length :: rngD ((pre.length + 1 : Nat) : Int) ss.length := by
      rw [List.length_cons, rng_succ]
      rfl
    rw [er]
    show (match agI 3 (.int pre.length) [S0 sal, .ow .par r, .fz (.int a), s3] with
      | none => Rf.stuck
      | some ρ1 => (match lnumB ρ1 with
        | .next ρ2 => loopF (agI 3) lnumB (rngD ((pre.length + 1 : Nat) : Int) ss.length) ρ2
        | .cnt ρ2 => loopF (agI 3) lnumB (rngD ((pre.length + 1 : Nat) : Int) ss.length) ρ2
        | .brk ρ2 => .next ρ2
        | r => r)) = _
    rw [ea]
    simp only [eb]
    exact ih
theorem c_lnumO (k : Nat) {ss : List Int} (ok : SOk ss) {r : D} (h : isFr ss r = true) : (Mk (k + 1)).call "_law_number" [S0 ss, .ow .par r] = .ret (.int (numb ss (rowOf r) 0)) false [S0 ss, .ow .par r] := by
  rw [call_eq (e := e__law_number) rfl (mo__law_number k) rfl rfl]
  have hl := ok.l
  obtain ⟨hro, hlen, hw⟩ := isFr_row h
  have em : m__law_number (Mk k).call = (sCons (sSet 2 (xC (.int (0)))) (sCons (sFor (VE.iRng1 (xBi "len" (xACons (xVar 0) xANil))) (agI 3) lnumB) (sCons (sRet (xVar 2)) sNil))) := rfl
  rw [em]
  show endF _ (sCons _ _ [S0 ss, .ow .par r, .un, .un]) = _
  rw [seq_next (a := sSet 2 (xC (.int (0)))) (ρ := [S0 ss, .ow .par r, .un, .un]) (ρ1 := [S0 ss, .ow .par r, .fz (.int 0), .un]) rfl]
  obtain ⟨s3', el⟩ := lnum_loopO (sal := ss) hro ss (rowOf r) [] [] 0 1 .un rfl rfl rfl rfl hlen hw ok.b (by decide) (by decide) (by omega)
  have e2 : xBi "len" (xACons (xVar 0) xANil) [S0 ss, .ow .par r, .fz (.int 0), .un] = .ok (.va (.int ss.length) false) [S0 ss, .ow .par r, .fz (.int 0), .un] := by
    simp [xBi, xACons, xANil, xVar, Rs.bind, Rs.of, deref, getSl, bi_len]
  have ei := rng1_ok (a := xBi "len" (xACons (xVar 0) xANil)) (N := ss.length) e2 (small_of (by omega) (by omega))
  rw [Int.toNat_natCast] at ei
  have ef : sFor (VE.iRng1 (xBi "len" (xACons (xVar 0) xANil))) (agI 3) lnumB [S0 ss, .ow .par r, .fz (.int 0), .un] = .next [S0 ss, .ow .par r, .fz (.int (numb ss (rowOf r) 0)), s3'] := by
    unfold sFor
    rw [ei]
    exact congrArg (Rf.map (unlockAll [])) el
  rw [seq_next ef]
  rfl
end LawP
end

section
set_option Elab.async false
set_option linter.all false
set_option maxRecDepth 100000
set_option maxHeartbeats 4000000
namespace LawP
open PySem PySem.Spec L2 VE

/-! ### fillings and their numbers -/
theorem fil_len (ss : List Int) (n : Int) : (fil ss n).length = ss.length := by
  unfold fil
  rw [List.length_reverse, dig_len, List.length_reverse]
theorem numb_app : ∀ (ss : List Int) (xs : List Int) (s x a : Int), xs.length = ss.length → numb (ss ++ [s]) (IL (xs ++ [x])) a = numb ss (IL xs) a * s + x
  | [], [], s, x, a, _ => rfl
  | [], _ :: _, _, _, _, h => by cases h
  | _ :: _, [], _, _, _, h => by cases h
  | y :: ss, z :: xs, s, x, a, h => numb_app ss xs s x (a * y + z) (by simpa using h)
theorem allW_app : ∀ (ss : List Int) (xs : List Int) (s x : Int), xs.length = ss.length → allW ss (IL xs) = true → 0 ≤ x → x < s → allW (ss ++ [s]) (IL (xs ++ [x])) = true
  | [], [], s, x, _, _, h0, h1 => by
    have a : 0 ≤ x := h0
    have b : x ≤ s - 1 := by omega
    simp [allW, IL, wh, a, b]
  | [], _ :: _, _, _, h, _, _, _ => by cases h
  | _ :: _, [], _, _, h, _, _, _ => by cases h
  | y :: ss, z :: xs, s, x, h, hw, h0, h1 => by
    obtain ⟨w1, w2⟩ := Bool.and_eq_true_iff.mp (show (wh (.int z) 0 (y - 1) && allW ss (IL xs)) = true from hw)
    show (wh (.int z) 0 (y - 1) && allW (ss ++ [s]) (IL (xs ++ [x]))) = true
    rw [w1, allW_app ss xs s x (by simpa using h) w2 h0 h1]
    rfl
theorem dig_all : ∀ (rs : List Int) (n : Int), (∀ x ∈ rs, 0 < x ∧ x ≤ 40) → allW rs.reverse (IL (dig rs n).reverse) = true
  | [], n, _ => rfl
  | s :: rs, n, h => by
    have hs := h s List.mem_cons_self
    rw [dig, List.reverse_cons, List.reverse_cons]
    exact allW_app _ _ _ _ (by rw [List.length_reverse, List.length_reverse, dig_len]) (dig_all rs _ fun x hx => h x (List.mem_cons_of_mem _ hx)) (Int.emod_nonneg _ (by omega)) (Int.emod_lt_of_pos _ hs.1)
theorem dig_num : ∀ (rs : List Int) (n : Int), (∀ x ∈ rs, 0 < x ∧ x ≤ 40) → 0 ≤ n → n < prod rs.reverse 1 → numb rs.reverse (IL (dig rs n).reverse) 0 = n
  | [], n, _, h0, h1 => by
    have : n < 1 := h1
    show (0 : Int) = n
    omega
  | s :: rs, n, h, h0, h1 => by
    have hs := h s List.mem_cons_self
    rw [List.reverse_cons, prod_app] at h1
    rw [dig, List.reverse_cons, List.reverse_cons, numb_app _ _ _ _ _ (by rw [List.length_reverse, List.length_reverse, dig_len])]
    rw [dig_num rs (n / s) (fun x hx => h x (List.mem_cons_of_mem _ hx)) (Int.ediv_nonneg h0 (by omega)) (Int.ediv_lt_of_lt_mul hs.1 h1)]
    have := Int.mul_ediv_add_emod n s
    rw [Int.mul_comm]
    exact this
theorem fil_all {ss : List Int} (h : ∀ x ∈ ss, 0 < x ∧ x ≤ 40) (n : Int) : allW ss (IL (fil ss n)) = true := by
  have e := dig_all ss.reverse n (fun x hx => h x (List.mem_reverse.mp hx))
  rw [List.reverse_reverse] at e
  exact e
theorem fil_num {ss : List Int} (h : ∀ x ∈ ss, 0 < x ∧ x ≤ 40) {n : Int} (h0 : 0 ≤ n) (h1 : n < prod ss 1) : numb ss (IL (fil ss n)) 0 = n := by
  have e := dig_num ss.reverse n (fun x hx => h x (List.mem_reverse.mp hx)) h0 (by rw [List.reverse_reverse]; exact h1)
  rw [List.reverse_reverse] at e
  exact e
theorem fil_isF {ss : List Int} (h : ∀ x ∈ ss, 0 < x ∧ x ≤ 40) (n : Int) : isF ss (IL (fil ss n)) = true := by
  rw [isF_eq, fil_all h, Bool.and_true]
  exact decide_eq_true (by rw [List.length_map, fil_len])
theorem fil_isFr {ss : List Int} (h : ∀ x ∈ ss, 0 < x ∧ x ≤ 40) (n : Int) {d : D} (hd : IsRow d (IL (fil ss n))) : isFr ss d = true := by
  rcases hd with rfl | rfl <;> exact fil_isF h n
theorem row_of {d : D} {es : List D} (hd : IsRow d es) : rowOf d = es := by
  rcases hd with rfl | rfl <;> rfl
theorem IL_kd {xs : List Int} : ∀ e ∈ IL xs, kd e = true := by
  intro e he
  obtain ⟨x, _, rfl⟩ := List.mem_map.mp he
  rfl
theorem IL_ok {xs : List Int} {d : D} (hd : IsRow d (IL xs)) : okRow d := by
  rcases hd with rfl | rfl <;> exact IL_kd
theorem fil_its {ss : List Int} (h : ∀ x ∈ ss, 0 < x ∧ x ≤ 40) {n : Int} (h0 : 0 ≤ n) (h1 : n < prod ss 1) {d : D} (hd : IsRow d (IL (fil ss n))) : itsN ss d = .int n := by
  unfold itsN
  rw [if_pos (fil_isFr h n hd), row_of hd, fil_num h h0 h1]
theorem fills_len (ss : List Int) : (fills ss).length = (prod ss 1).toNat := by
  unfold fills
  rw [List.length_map, rngL_len]
theorem fills_at {ss : List Int} {n : Int} (h0 : 0 ≤ n) (h1 : n < prod ss 1) : L2.atI (fills ss) n = some (.tup (IL (fil ss n))) := by
  have hl := fills_len ss
  have hn : n.toNat < (fills ss).length := by omega
  unfold L2.atI ixN
  rw [if_pos h0, if_pos (by omega)]
  simp only [Option.bind_some]
  rw [List.getElem?_eq_getElem hn]
  have hr : n.toNat < (prod ss 1).toNat := by omega
  have hv : (0 : Int) + (n.toNat : Int) = n := by omega
  simp only [fills, rngL, List.getElem_map, List.getElem_range, hv]
/-! ### equal rows -/
theorem il_el {xs : List Int} : ∀ e ∈ IL xs, el e = true := by
  intro e he
  obtain ⟨x, _, rfl⟩ := List.mem_map.mp he
  rfl
theorem tup_eqv {es : List D} (h : ∀ e ∈ es, el e = true) : PyData.eqv (toPy (.tup es)) (toPy (.tup es)) = true ∧ plainD (.tup es) = true ∧ (toPy (.tup es)).depth ≤ 3 := by
  obtain ⟨b1, b2, b3⟩ := els_eqv h
  refine ⟨b1, b2, ?_⟩
  simp only [toPy, PyData.depth]
  omega
theorem tups_eqv : ∀ {ds : List D}, (∀ d ∈ ds, ∃ es, d = .tup es ∧ ∀ e ∈ es, el e = true) → PyData.eqvAll (toPys ds) (toPys ds) = true ∧ plainDs ds = true ∧ PyData.depthAll (toPys ds) ≤ 3
  | [], _ => ⟨rfl, rfl, by simp [toPys, PyData.depthAll]⟩
  | d :: ds, h => by
    obtain ⟨es, rfl, he⟩ := h d List.mem_cons_self
    obtain ⟨a1, a2, a3⟩ := tup_eqv he
    obtain ⟨b1, b2, b3⟩ := tups_eqv fun x hx => h x (List.mem_cons_of_mem _ hx)
    refine ⟨?_, ?_, ?_⟩
    · show (PyData.eqv (toPy (.tup es)) (toPy (.tup es)) && PyData.eqvAll (toPys ds) (toPys ds)) = true
      rw [a1, b1]
      rfl
    · show (plainD (.tup es) && plainDs ds) = true
      rw [a2, b2]
      rfl
    · simp only [toPys, PyData.depthAll]
      omega
theorem tup_ne {es : List D} (h : ∀ e ∈ es, el e = true) : cmpD .NotEq (.tup es) (.tup es) = some false := by
  obtain ⟨b1, b2, b3⟩ := tup_eqv h
  have e1 : eqOk (.tup es) (.tup es) = true := by
    simp only [eqOk, b2, Bool.true_and, decide_eq_true_eq]
    omega
  show (if eqOk (.tup es) (.tup es) then some (!eqD (.tup es) (.tup es)) else none) = _
  rw [if_pos e1]
  show some (!PyData.eqv (toPy (.tup es)) (toPy (.tup es))) = _
  rw [b1]
  rfl
theorem fills_ne (ss : List Int) : cmpD .NotEq (.lst (fills ss)) (.lst (fills ss)) = some false := by
  obtain ⟨b1, b2, b3⟩ := tups_eqv (ds := fills ss) (by
    intro d hd
    obtain ⟨i, _, rfl⟩ := List.mem_map.mp hd
    exact ⟨_, rfl, il_el⟩)
  have e1 : eqOk (.lst (fills ss)) (.lst (fills ss)) = true := by
    simp only [eqOk, plainD, b2, toPy, PyData.depth, Bool.true_and, decide_eq_true_eq]
    omega
  show (if eqOk (.lst (fills ss)) (.lst (fills ss)) then some (!eqD (.lst (fills ss)) (.lst (fills ss))) else none) = _
  rw [if_pos e1]
  have e2 : eqD (.lst (fills ss)) (.lst (fills ss)) = true := b1
  rw [e2]
  rfl
theorem c_tuples_fills (k : Nat) (ss : List Int) : (Mk (k + 3)).call "_law_tuples" [.fz (.tup (fills ss))] = .ret (.bl true) false [.fz (.tup (fills ss))] := by
  refine c_tuples_tup (k + 2) fun d hd => ?_
  obtain ⟨i, _, rfl⟩ := List.mem_map.mp hd
  refine c_tuples_tup (k + 1) fun e he => ?_
  obtain ⟨x, _, rfl⟩ := List.mem_map.mp he
  exact c_tuples_int k x
/-! ### what a call gives back -/
theorem give1 {i : Nat} {a : Sl} {bs : List Bv} {as : List Sl} {ρ : Ro} {s : Sl} (hs : ρ[i]? = some s) (h : noAt bs = true) : giveBack (.at i :: bs) (a :: as) ρ = ρ.set i (comb s (some a)) := by
  unfold giveBack
  apply List.ext_getElem?
  intro p
  rw [List.getElem?_mapIdx, List.getElem?_set]
  by_cases q : i = p
  · subst q
    have hl : i < ρ.length := by
      by_cases z : i < ρ.length
      · exact z
      · rw [List.getElem?_eq_none (by omega)] at hs
        cases hs
    rw [if_pos rfl, if_pos hl, hs]
    show some (comb s (if i = i then some a else findArg i bs as)) = _
    rw [if_pos rfl]
  · rw [if_neg q]
    cases hp : ρ[p]? with
    | none => rfl
    | some u =>
      show some (comb u (if i = p then some a else findArg p bs as)) = _
      rw [if_neg q, findArg_no h, comb_none]
theorem give2 {i j : Nat} {a b : Sl} {bs : List Bv} {as : List Sl} {ρ : Ro} {s u : Sl} (hs : ρ[i]? = some s) (hu : ρ[j]? = some u) (ij : i ≠ j) (h : noAt bs = true) : giveBack (.at i :: .at j :: bs) (a :: b :: as) ρ = (ρ.set i (comb s (some a))).set j (comb u (some b)) := by
  unfold giveBack
  apply List.ext_getElem?
  intro p
  rw [List.getElem?_mapIdx, List.getElem?_set, List.getElem?_set]
  have hlt : ∀ {k : Nat} {x : Sl}, ρ[k]? = some x → k < ρ.length := fun {k x} hx => by
    by_cases z : k < ρ.length
    · exact z
    · rw [List.getElem?_eq_none (by omega)] at hx
      cases hx
  by_cases q : i = p
  · subst q
    rw [if_neg (fun e => ij e.symm), if_pos rfl, if_pos (hlt hs), hs]
    show some (comb s (if i = i then some a else _)) = _
    rw [if_pos rfl]
  · by_cases q2 : j = p
    · subst q2
      rw [if_pos rfl, List.length_set, if_pos (hlt hu), hu]
      show some (comb u (if i = j then some a else if j = j then some b else _)) = _
      rw [if_neg ij, if_pos rfl]
    · rw [if_neg q2, if_neg q]
      cases hp : ρ[p]? with
      | none => rfl
      | some v =>
        show some (comb v (if i = p then some a else if j = p then some b else findArg p bs as)) = _
        rw [if_neg q, if_neg q2, findArg_no h, comb_none]
end LawP
end

section
set_option Elab.async false
set_option linter.all false
set_option maxRecDepth 100000
set_option maxHeartbeats 4000000
namespace LawP
open PySem PySem.Spec L2 VE

/-! ### what calls give, with the arguments in slots -/
theorem set_self {ρ : Ro} {i : Nat} {s : Sl} (h : ρ[i]? = some s) : ρ.set i s = ρ := by
  apply List.ext_getElem?
  intro p
  rw [List.getElem?_set]
  by_cases q : i = p
  · subst q
    have hl : i < ρ.length := by
      by_cases z : i < ρ.length
      · exact z
      · rw [List.getElem?_eq_none (by omega)] at h
        cases h
    rw [if_pos rfl, if_pos hl, h]
  · rw [if_neg q]
theorem at_own {ρ : Ro} {i : Nat} {T : D} {m : Md} (h : ρ[i]? = some (.ow m T)) : xVar i ρ = .ok (.at i) ρ := by
  unfold xVar
  rw [h]
theorem deref_own {ρ : Ro} {i : Nat} {T : D} {m : Md} (h : ρ[i]? = some (.ow m T)) : deref ρ (.at i) = some T := by
  simp [deref, getSl, h]
theorem x_own0 {C : List Sl → Cr} {i : Nat} {ρ : Ro} {S S' d : D} {fl : Bool} (h : ρ[i]? = some (.ow .own S)) (e : C [.ow .par S] = .ret d fl [.ow .par S']) {ρ2 : Ro} (hr : ρ.set i (.ow .own S') = ρ2) : xOwn C [] (xACons (xVar i) xANil) ρ = .ok (.va d fl) ρ2 := by
  subst hr
  have hl : lend ρ [.at i] = some [.ow .par S] := by simp [lend, lend1, atsOf, h]
  exact xOwn_ok (xACons_ok (at_own h) rfl) hl e (give1 h rfl)
theorem x_own1 {C : List Sl → Cr} {i : Nat} {ρ ρ1 : Ro} {S S' x d T : D} {y : Sl} {fl b : Bool} {a : XE} (h0 : ρ[i]? = some (.ow .own T)) (ha : a ρ = .ok (.va x b) ρ1) (h : ρ1[i]? = some (.ow .own S)) (e : C [.ow .par S, .fz x] = .ret d fl [.ow .par S', y]) {ρ2 : Ro} (hr : ρ1.set i (.ow .own S') = ρ2) : xOwn C [] (xACons (xVar i) (xACons a xANil)) ρ = .ok (.va d fl) ρ2 := by
  subst hr
  have hl : lend ρ1 [.at i, .va x false] = some [.ow .par S, .fz x] := by simp [lend, lend1, atsOf, h]
  exact xOwn_ok (xACons_ok (at_own h0) (xACons_ok ha rfl)) hl e (give1 h rfl)
theorem x_own1s {C : List Sl → Cr} {i : Nat} {ρ ρ1 : Ro} {S x d T : D} {y : Sl} {fl b : Bool} {a : XE} (h0 : ρ[i]? = some (.ow .own T)) (ha : a ρ = .ok (.va x b) ρ1) (h : ρ1[i]? = some (.ow .own S)) (e : C [.ow .par S, .fz x] = .ret d fl [.ow .par S, y]) : xOwn C [] (xACons (xVar i) (xACons a xANil)) ρ = .ok (.va d fl) ρ1 := by
  exact x_own1 h0 ha h e (set_self h)
theorem x_own1p {C : List Sl → Cr} {i : Nat} {ρ : Ro} {S S' x d : D} {y : Sl} {fl b : Bool} {a : XE} (h : ρ[i]? = some (.ow .own S)) (ha : a ρ = .ok (.va x b) ρ) (e : C [.ow .par S, .fz x] = .ret d fl [.ow .par S', y]) {ρ2 : Ro} (hr : ρ.set i (.ow .own S') = ρ2) : xOwn C [] (xACons (xVar i) (xACons a xANil)) ρ = .ok (.va d fl) ρ2 :=
  x_own1 h ha h e hr
/-- two lists lent, the first one changed -/
theorem x_own2 {C : List Sl → Cr} {i j : Nat} {ρ : Ro} {S S' U d : D} {fl : Bool} (ij : i ≠ j) (h : ρ[i]? = some (.ow .own S)) (hj : ρ[j]? = some (.ow .own U)) (e : C [.ow .par S, .ow .par U] = .ret d fl [.ow .par S', .ow .par U]) {ρ2 : Ro} (hr : ρ.set i (.ow .own S') = ρ2) : xOwn C [] (xACons (xVar i) (xACons (xVar j) xANil)) ρ = .ok (.va d fl) ρ2 := by
  subst hr
  have hl : lend ρ [.at i, .at j] = some [.ow .par S, .ow .par U] := by simp [lend, lend1, atsOf, h, hj, ij]
  have hj' : (ρ.set i (comb (.ow .own S) (some (.ow .par S'))))[j]? = some (.ow .own U) := by rw [List.getElem?_set, if_neg ij, hj]
  have g := give2 (a := .ow .par S') (b := .ow .par U) (bs := []) (as := []) h hj ij rfl
  have g' : giveBack [.at i, .at j] [.ow .par S', .ow .par U] ρ = ρ.set i (.ow .own S') := by
    rw [g]
    exact set_self hj'
  exact xOwn_ok (xACons_ok (at_own h) (xACons_ok (at_own hj) rfl)) hl e g'
/-- only plain things lent -/
theorem x_ownv {C : List Sl → Cr} {ρ ρ1 : Ro} {args : XA} {bs : List Bv} {sls as : List Sl} {d : D} {fl : Bool} (h : args ρ = .ok bs ρ1) (n : noAt bs = true) (hl : lend ρ1 bs = some sls) (e : C sls = .ret d fl as) : xOwn C [] args ρ = .ok (.va d fl) ρ1 := by
  refine xOwn_ok (as := as) h hl ?_ (give_no n)
  rw [show sls ++ ([] : List D).map Sl.fz = sls from List.append_nil _]
  exact e
theorem x_v1 {C : List Sl → Cr} {ρ ρ1 : Ro} {a : XE} {x d : D} {b fl : Bool} {as : List Sl} (ha : a ρ = .ok (.va x b) ρ1) (e : C [.fz x] = .ret d fl as) : xOwn C [] (xACons a xANil) ρ = .ok (.va d fl) ρ1 :=
  x_ownv (xACons_ok ha rfl) rfl rfl e
theorem x_v2 {C : List Sl → Cr} {ρ ρ1 ρ2 : Ro} {a c : XE} {x y d : D} {b b' fl : Bool} {as : List Sl} (ha : a ρ = .ok (.va x b) ρ1) (hc : c ρ1 = .ok (.va y b') ρ2) (e : C [.fz x, .fz y] = .ret d fl as) : xOwn C [] (xACons a (xACons c xANil)) ρ = .ok (.va d fl) ρ2 :=
  x_ownv (xACons_ok ha (xACons_ok hc rfl)) rfl rfl e
theorem xCmp_ok {op : CmpOp} {a b : XE} {ρ ρ1 ρ2 : Ro} {bx bv : Bv} {x y : D} {v : Bool} (h1 : a ρ = .ok bx ρ1) (h2 : b ρ1 = .ok bv ρ2) (dx : deref ρ2 bx = some x) (dy : deref ρ2 bv = some y) (h : cmpD op x y = some v) : xCmp op a b ρ = .ok (.va (.bl v) false) ρ2 := by
  unfold xCmp
  rw [h1]
  simp only [Rs.bind]
  rw [h2]
  simp only [dx, dy, h, Option.bind_some, Option.map_some, Rs.of]
theorem tCm_ok {op : CmpOp} {a b : XE} {ρ ρ1 ρ2 : Ro} {bx bv : Bv} {x y : D} {v : Bool} (h1 : a ρ = .ok bx ρ1) (h2 : b ρ1 = .ok bv ρ2) (dx : deref ρ2 bx = some x) (dy : deref ρ2 bv = some y) (h : cmpD op x y = some v) : tCm (xCmp op a b) ρ = .ok v ρ2 := by
  unfold tCm
  rw [xCmp_ok h1 h2 dx dy h]
  rfl
theorem tE_ok {a : XE} {ρ ρ1 : Ro} {b fl : Bool} (h : a ρ = .ok (.va (.bl b) fl) ρ1) : tE a ρ = .ok b ρ1 := by
  unfold tE
  rw [h]
  rfl
theorem tNot_ok {a : XT} {ρ ρ1 : Ro} {b : Bool} (h : a ρ = .ok b ρ1) : VE.tNot a ρ = .ok (!b) ρ1 := by
  unfold VE.tNot
  rw [h]
  rfl
theorem tOr_f {a b : XT} {ρ ρ1 : Ro} (h : a ρ = .ok false ρ1) : VE.tOr a b ρ = b ρ1 := by
  unfold VE.tOr
  rw [h]
  rfl
theorem tOr_t {a b : XT} {ρ ρ1 : Ro} (h : a ρ = .ok true ρ1) : VE.tOr a b ρ = .ok true ρ1 := by
  unfold VE.tOr
  rw [h]
  rfl
theorem tAnd_f {a b : XT} {ρ ρ1 : Ro} (h : a ρ = .ok false ρ1) : VE.tAnd a b ρ = .ok false ρ1 := by
  unfold VE.tAnd
  rw [h]
  rfl
theorem tAnd_t {a b : XT} {ρ ρ1 : Ro} (h : a ρ = .ok true ρ1) : VE.tAnd a b ρ = b ρ1 := by
  unfold VE.tAnd
  rw [h]
  rfl
theorem xIx_own {i : Nat} {s : XE} {ρ ρ2 : Ro} {xs : List D} {r : Int} {d : D} {m m' : Md} (h0 : ρ[i]? = some (.ow m' (.lst xs))) (hs : s ρ = .ok (.va (.int r) false) ρ2) (h : ρ2[i]? = some (.ow m (.lst xs))) (h3 : L2.atI xs r = some d) : xIx (xVar i) s ρ = .ok (.va d false) ρ2 := by
  unfold xIx
  rw [at_own h0]
  simp only [Rs.bind]
  rw [hs]
  simp only [deref_own h]
  simp only [deref, Option.bind_some, ixD, h3, Option.map_some, Rs.of]
theorem isi_ok {i : Nat} {ρ : Ro} {d : D} {xs : List Str} {v : Bool} (h : ρ[i]? = some (.fz d)) (ht : (tyD d).bind (fun t => isiD t xs) = some v) : xIsi (xVar i) xs ρ = .ok (.va (.bl v) false) ρ := by
  unfold xIsi xVar
  rw [h]
  simp only [Rs.bind, deref, Option.bind_some, ht, Option.map_some, Rs.of]
theorem seq_fin {a : XS} {ρ ρ1 : Ro} (h : a ρ = .next ρ1) : sCons a sNil ρ = .next ρ1 := seq_last h
theorem for_rng {asg : D → Ro → Option Ro} {body : XS} {N : Int} {ρ ρ1 : Ro} (h0 : 0 ≤ N) (h1 : N ≤ 1000) (e : loopF asg body (rngD 0 N.toNat) ρ = .next ρ1) : sFor (VE.iRng1 (xC (.int N))) asg body ρ = .next ρ1 := by
  have ei := rng1_ok (a := xC (.int N)) (ρ := ρ) (ρ1 := ρ) (N := N) rfl (small_of h0 (by omega))
  unfold sFor
  rw [ei]
  exact congrArg (Rf.map (unlockAll [])) e
theorem for_gen {asg : D → Ro → Option Ro} {body : XS} {a : XE} {ds : List D} {fl : Bool} {ρ ρ1 ρ2 : Ro} (ha : a ρ = .ok (.va (.lst ds) fl) ρ1) (e : loopF asg body ds ρ1 = .next ρ2) : sFor (VE.iGen a) asg body ρ = .next ρ2 := by
  have ei : VE.iGen a ρ = .ok (ds, []) ρ1 := by
    unfold VE.iGen
    rw [ha]
    rfl
  unfold sFor
  rw [ei]
  exact congrArg (Rf.map (unlockAll [])) e
/-! ### turns of the first loop -/
def turnB (C : Str → List Sl → Cr) : XS := (sCons (sSet 7 (xOwn (C "_law_take") [] (xACons (xVar 1) (xACons (xVar 3) xANil)))) (sCons (sSet 10 (xOwn (C "_law_by_number") [] (xACons (xOwn (C "_law_lists") [] (xACons (xVar 1) (xACons (xVar 2) xANil))) (xACons (xVar 7) xANil)))) (sCons (sIf (VE.tOr (VE.tNot (tE (xIsi (xVar 10) ["tuple"]))) (VE.tOr (tCm (xCmp .NotEq (xVar 10) (xIx (xVar 4) (xVar 7)))) (tCm (xCmp .NotEq (xOwn (C "_law_its_number") [] (xACons (xVar 2) (xACons (xOwn (C "_law_lists") [] (xACons (xVar 1) (xACons (xVar 10) xANil))) xANil))) (xVar 7))))) (sCons (sRet (xC (.bl false))) sNil) sNil) (sCons (sIf (tCm (xCmp .IsNot (xOwn (C "is_filling") [] (xACons (xVar 2) (xACons (xOwn (C "_law_lists") [] (xACons (xVar 1) (xACons (xIx (xVar 4) (xVar 7)) xANil))) xANil))) (xC (.bl true)))) (sCons (sRet (xC (.bl false))) sNil) sNil) sNil))))

theorem turn_body (k : Nat) {ss : List Int} (ok : SOk2 ss) {cells : List Int} {pos big tot : Int} (h : HOk cells pos big tot) {s0 s5 s6 s7 s8 s9 s10 s11 s12 s13 s14 : Sl} (m7 : Ms s7) (m10 : Ms s10) :
    ∃ (p b t r : Int), turnB (Mk (k + 5)).call [s0, .ow .own (HD cells pos big tot), .ow .own (.lst (IL ss)), .fz (.int (prod ss 1)), .ow .own (.lst (fills ss)), s5, s6, s7, s8, s9, s10, s11, s12, s13, s14] = .next [s0, .ow .own (HD cells p b t), .ow .own (.lst (IL ss)), .fz (.int (prod ss 1)), .ow .own (.lst (fills ss)), s5, s6, .fz (.int r), s8, s9, .fz (.tup (IL (fil ss r))), s11, s12, s13, s14] ∧ HOk cells p b t := by
  have hp := ok.p
  have h0 := prod_pos ss 1 (by decide) ok.b
  have hb := ok.b
  obtain ⟨r, p1, b1, t1, e1, r0, r1, h1⟩ := c_take (k + 3) h (m := prod ss 1) h0 (by
    have : (10 : Int) ^ 18 = 1000000000000000000 := by decide
    omega)
  obtain ⟨d2, f2, p2, b2, t2, e2, h2, q2⟩ := c_lists (k + 2) (s1 := .ow .par (.lst (IL ss))) (xs := IL ss) (.inl rfl) h1
  have hz2 : Sz (.fz d2) ss := by
    rcases q2 with ⟨rfl, _⟩ | ⟨rfl, _⟩
    · exact .inr (.inl rfl)
    · exact .inr (.inr rfl)
  have e3 := c_by (k + 2) (s0 := .fz d2) hz2 ok.toSOk (d := .int r) rfl
  have by3 : byN ss (.int r) = .tup (IL (fil ss r)) := if_pos ⟨r0, by omega⟩
  rw [by3] at e3
  obtain ⟨d4, f4, p4, b4, t4, e4, h4, q4⟩ := c_lists (k + 2) (s1 := .fz (.tup (IL (fil ss r)))) (xs := IL (fil ss r)) (.inr (.inr rfl)) h2
  have w4 : IsRow d4 (IL (fil ss r)) := by
    rcases q4 with ⟨rfl, _⟩ | ⟨rfl, _⟩
    · exact .inr rfl
    · exact .inl rfl
  have e5 := c_its k ok.toSOk (r := d4) (IL_ok w4)
  rw [fil_its hb r0 r1 w4] at e5
  obtain ⟨d6, f6, p6, b6, t6, e6, h6, q6⟩ := c_lists (k + 2) (s1 := .fz (.tup (IL (fil ss r)))) (xs := IL (fil ss r)) (.inr (.inr rfl)) h4
  have w6 : IsRow d6 (IL (fil ss r)) := by
    rcases q6 with ⟨rfl, _⟩ | ⟨rfl, _⟩
    · exact .inr rfl
    · exact .inl rfl
  have e7 := c_isfil (k + 2) (ss := ss) (r := d6) (IL_ok w6)
  rw [fil_isFr hb r w6] at e7
  have hat := fills_at r0 r1
  refine ⟨p6, b6, t6, r, ?_, h6⟩
  generalize (Mk (k + 5)).call = C at e1 e2 e3 e4 e5 e6 e7 ⊢
  unfold turnB
  have x1 : xOwn (C "_law_take") [] (xACons (xVar 1) (xACons (xVar 3) xANil)) [s0, .ow .own (HD cells pos big tot), .ow .own (.lst (IL ss)), .fz (.int (prod ss 1)), .ow .own (.lst (fills ss)), s5, s6, s7, s8, s9, s10, s11, s12, s13, s14] = .ok (.va (.int r) false) [s0, .ow .own (HD cells p1 b1 t1), .ow .own (.lst (IL ss)), .fz (.int (prod ss 1)), .ow .own (.lst (fills ss)), s5, s6, s7, s8, s9, s10, s11, s12, s13, s14] := x_own1p (i := 1) (a := xVar 3) (x := .int (prod ss 1)) (b := false) rfl rfl e1 rfl
  rw [seq_next (sSet_ok (ρ2 := [s0, .ow .own (HD cells p1 b1 t1), .ow .own (.lst (IL ss)), .fz (.int (prod ss 1)), .ow .own (.lst (fills ss)), s5, s6, .fz (.int r), s8, s9, s10, s11, s12, s13, s14]) x1 (putI_ok (ρ := [s0, .ow .own (HD cells p1 b1 t1), .ow .own (.lst (IL ss)), .fz (.int (prod ss 1)), .ow .own (.lst (fills ss)), s5, s6, s7, s8, s9, s10, s11, s12, s13, s14]) m7))]
  have x2 : (xOwn (C "_law_lists") [] (xACons (xVar 1) (xACons (xVar 2) xANil))) [s0, .ow .own (HD cells p1 b1 t1), .ow .own (.lst (IL ss)), .fz (.int (prod ss 1)), .ow .own (.lst (fills ss)), s5, s6, .fz (.int r), s8, s9, s10, s11, s12, s13, s14] = .ok (.va d2 f2) [s0, .ow .own (HD cells p2 b2 t2), .ow .own (.lst (IL ss)), .fz (.int (prod ss 1)), .ow .own (.lst (fills ss)), s5, s6, .fz (.int r), s8, s9, s10, s11, s12, s13, s14] := x_own2 (by decide) rfl rfl e2 rfl
  have x3 : (xOwn (C "_law_by_number") [] (xACons (xOwn (C "_law_lists") [] (xACons (xVar 1) (xACons (xVar 2) xANil))) (xACons (xVar 7) xANil))) [s0, .ow .own (HD cells p1 b1 t1), .ow .own (.lst (IL ss)), .fz (.int (prod ss 1)), .ow .own (.lst (fills ss)), s5, s6, .fz (.int r), s8, s9, s10, s11, s12, s13, s14] = .ok (.va (.tup (IL (fil ss r))) false) [s0, .ow .own (HD cells p2 b2 t2), .ow .own (.lst (IL ss)), .fz (.int (prod ss 1)), .ow .own (.lst (fills ss)), s5, s6, .fz (.int r), s8, s9, s10, s11, s12, s13, s14] := x_v2 x2 rfl e3
  rw [seq_next (sSet_ok (ρ2 := [s0, .ow .own (HD cells p2 b2 t2), .ow .own (.lst (IL ss)), .fz (.int (prod ss 1)), .ow .own (.lst (fills ss)), s5, s6, .fz (.int r), s8, s9, .fz (.tup (IL (fil ss r))), s11, s12, s13, s14]) x3 (putI_ok (ρ := [s0, .ow .own (HD cells p2 b2 t2), .ow .own (.lst (IL ss)), .fz (.int (prod ss 1)), .ow .own (.lst (fills ss)), s5, s6, .fz (.int r), s8, s9, s10, s11, s12, s13, s14]) m10))]
  have y1 : tE (xIsi (xVar 10) ["tuple"]) [s0, .ow .own (HD cells p2 b2 t2), .ow .own (.lst (IL ss)), .fz (.int (prod ss 1)), .ow .own (.lst (fills ss)), s5, s6, .fz (.int r), s8, s9, .fz (.tup (IL (fil ss r))), s11, s12, s13, s14] = .ok true [s0, .ow .own (HD cells p2 b2 t2), .ow .own (.lst (IL ss)), .fz (.int (prod ss 1)), .ow .own (.lst (fills ss)), s5, s6, .fz (.int r), s8, s9, .fz (.tup (IL (fil ss r))), s11, s12, s13, s14] := tE_ok (isi_ok (d := .tup (IL (fil ss r))) rfl isi_tuple_tuple)
  have y2 : xIx (xVar 4) (xVar 7) [s0, .ow .own (HD cells p2 b2 t2), .ow .own (.lst (IL ss)), .fz (.int (prod ss 1)), .ow .own (.lst (fills ss)), s5, s6, .fz (.int r), s8, s9, .fz (.tup (IL (fil ss r))), s11, s12, s13, s14] = .ok (.va (.tup (IL (fil ss r))) false) [s0, .ow .own (HD cells p2 b2 t2), .ow .own (.lst (IL ss)), .fz (.int (prod ss 1)), .ow .own (.lst (fills ss)), s5, s6, .fz (.int r), s8, s9, .fz (.tup (IL (fil ss r))), s11, s12, s13, s14] := xIx_own (i := 4) (m := .own) (m' := .own) rfl rfl rfl hat
  have y3 : tCm (xCmp .NotEq (xVar 10) (xIx (xVar 4) (xVar 7))) [s0, .ow .own (HD cells p2 b2 t2), .ow .own (.lst (IL ss)), .fz (.int (prod ss 1)), .ow .own (.lst (fills ss)), s5, s6, .fz (.int r), s8, s9, .fz (.tup (IL (fil ss r))), s11, s12, s13, s14] = .ok false [s0, .ow .own (HD cells p2 b2 t2), .ow .own (.lst (IL ss)), .fz (.int (prod ss 1)), .ow .own (.lst (fills ss)), s5, s6, .fz (.int r), s8, s9, .fz (.tup (IL (fil ss r))), s11, s12, s13, s14] := tCm_ok (bx := .va (.tup (IL (fil ss r))) false) rfl y2 rfl rfl (tup_ne il_el)
  have x4 : (xOwn (C "_law_lists") [] (xACons (xVar 1) (xACons (xVar 10) xANil))) [s0, .ow .own (HD cells p2 b2 t2), .ow .own (.lst (IL ss)), .fz (.int (prod ss 1)), .ow .own (.lst (fills ss)), s5, s6, .fz (.int r), s8, s9, .fz (.tup (IL (fil ss r))), s11, s12, s13, s14] = .ok (.va d4 f4) [s0, .ow .own (HD cells p4 b4 t4), .ow .own (.lst (IL ss)), .fz (.int (prod ss 1)), .ow .own (.lst (fills ss)), s5, s6, .fz (.int r), s8, s9, .fz (.tup (IL (fil ss r))), s11, s12, s13, s14] := x_own1p (i := 1) (a := xVar 10) (x := .tup (IL (fil ss r))) (b := false) rfl rfl e4 rfl
  have x5 : xOwn (C "_law_its_number") [] (xACons (xVar 2) (xACons (xOwn (C "_law_lists") [] (xACons (xVar 1) (xACons (xVar 10) xANil))) xANil)) [s0, .ow .own (HD cells p2 b2 t2), .ow .own (.lst (IL ss)), .fz (.int (prod ss 1)), .ow .own (.lst (fills ss)), s5, s6, .fz (.int r), s8, s9, .fz (.tup (IL (fil ss r))), s11, s12, s13, s14] = .ok (.va (.int r) false) [s0, .ow .own (HD cells p4 b4 t4), .ow .own (.lst (IL ss)), .fz (.int (prod ss 1)), .ow .own (.lst (fills ss)), s5, s6, .fz (.int r), s8, s9, .fz (.tup (IL (fil ss r))), s11, s12, s13, s14] := x_own1s (i := 2) rfl x4 rfl e5
  have y4 : tCm (xCmp .NotEq (xOwn (C "_law_its_number") [] (xACons (xVar 2) (xACons (xOwn (C "_law_lists") [] (xACons (xVar 1) (xACons (xVar 10) xANil))) xANil))) (xVar 7)) [s0, .ow .own (HD cells p2 b2 t2), .ow .own (.lst (IL ss)), .fz (.int (prod ss 1)), .ow .own (.lst (fills ss)), s5, s6, .fz (.int r), s8, s9, .fz (.tup (IL (fil ss r))), s11, s12, s13, s14] = .ok false [s0, .ow .own (HD cells p4 b4 t4), .ow .own (.lst (IL ss)), .fz (.int (prod ss 1)), .ow .own (.lst (fills ss)), s5, s6, .fz (.int r), s8, s9, .fz (.tup (IL (fil ss r))), s11, s12, s13, s14] := tCm_ok (bv := .va (.int r) false) x5 rfl rfl rfl (by rw [cm_ne, decide_eq_true rfl]; rfl)
  have z2 : (VE.tOr (VE.tNot (tE (xIsi (xVar 10) ["tuple"]))) (VE.tOr (tCm (xCmp .NotEq (xVar 10) (xIx (xVar 4) (xVar 7)))) (tCm (xCmp .NotEq (xOwn (C "_law_its_number") [] (xACons (xVar 2) (xACons (xOwn (C "_law_lists") [] (xACons (xVar 1) (xACons (xVar 10) xANil))) xANil))) (xVar 7))))) [s0, .ow .own (HD cells p2 b2 t2), .ow .own (.lst (IL ss)), .fz (.int (prod ss 1)), .ow .own (.lst (fills ss)), s5, s6, .fz (.int r), s8, s9, .fz (.tup (IL (fil ss r))), s11, s12, s13, s14] = .ok false [s0, .ow .own (HD cells p4 b4 t4), .ow .own (.lst (IL ss)), .fz (.int (prod ss 1)), .ow .own (.lst (fills ss)), s5, s6, .fz (.int r), s8, s9, .fz (.tup (IL (fil ss r))), s11, s12, s13, s14] := by
    rw [tOr_f (tNot_ok y1), tOr_f y3]
    exact y4
  rw [seq_next (sIf_skip z2)]
  have y5 : xIx (xVar 4) (xVar 7) [s0, .ow .own (HD cells p4 b4 t4), .ow .own (.lst (IL ss)), .fz (.int (prod ss 1)), .ow .own (.lst (fills ss)), s5, s6, .fz (.int r), s8, s9, .fz (.tup (IL (fil ss r))), s11, s12, s13, s14] = .ok (.va (.tup (IL (fil ss r))) false) [s0, .ow .own (HD cells p4 b4 t4), .ow .own (.lst (IL ss)), .fz (.int (prod ss 1)), .ow .own (.lst (fills ss)), s5, s6, .fz (.int r), s8, s9, .fz (.tup (IL (fil ss r))), s11, s12, s13, s14] := xIx_own (i := 4) (m := .own) (m' := .own) rfl rfl rfl hat
  have x6 : (xOwn (C "_law_lists") [] (xACons (xVar 1) (xACons (xIx (xVar 4) (xVar 7)) xANil))) [s0, .ow .own (HD cells p4 b4 t4), .ow .own (.lst (IL ss)), .fz (.int (prod ss 1)), .ow .own (.lst (fills ss)), s5, s6, .fz (.int r), s8, s9, .fz (.tup (IL (fil ss r))), s11, s12, s13, s14] = .ok (.va d6 f6) [s0, .ow .own (HD cells p6 b6 t6), .ow .own (.lst (IL ss)), .fz (.int (prod ss 1)), .ow .own (.lst (fills ss)), s5, s6, .fz (.int r), s8, s9, .fz (.tup (IL (fil ss r))), s11, s12, s13, s14] := x_own1p (i := 1) rfl y5 e6 rfl
  have x7 : xOwn (C "is_filling") [] (xACons (xVar 2) (xACons (xOwn (C "_law_lists") [] (xACons (xVar 1) (xACons (xIx (xVar 4) (xVar 7)) xANil))) xANil)) [s0, .ow .own (HD cells p4 b4 t4), .ow .own (.lst (IL ss)), .fz (.int (prod ss 1)), .ow .own (.lst (fills ss)), s5, s6, .fz (.int r), s8, s9, .fz (.tup (IL (fil ss r))), s11, s12, s13, s14] = .ok (.va (.bl true) false) [s0, .ow .own (HD cells p6 b6 t6), .ow .own (.lst (IL ss)), .fz (.int (prod ss 1)), .ow .own (.lst (fills ss)), s5, s6, .fz (.int r), s8, s9, .fz (.tup (IL (fil ss r))), s11, s12, s13, s14] := x_own1s (i := 2) rfl x6 rfl e7
  have z3 : (tCm (xCmp .IsNot (xOwn (C "is_filling") [] (xACons (xVar 2) (xACons (xOwn (C "_law_lists") [] (xACons (xVar 1) (xACons (xIx (xVar 4) (xVar 7)) xANil))) xANil))) (xC (.bl true)))) [s0, .ow .own (HD cells p4 b4 t4), .ow .own (.lst (IL ss)), .fz (.int (prod ss 1)), .ow .own (.lst (fills ss)), s5, s6, .fz (.int r), s8, s9, .fz (.tup (IL (fil ss r))), s11, s12, s13, s14] = .ok false [s0, .ow .own (HD cells p6 b6 t6), .ow .own (.lst (IL ss)), .fz (.int (prod ss 1)), .ow .own (.lst (fills ss)), s5, s6, .fz (.int r), s8, s9, .fz (.tup (IL (fil ss r))), s11, s12, s13, s14] := tCm_ok (bv := .va (.bl true) false) x7 rfl rfl rfl rfl
  exact seq_last (sIf_skip z3)
end LawP
end

section
set_option Elab.async false
set_option linter.all false
set_option maxRecDepth 100000
set_option maxHeartbeats 4000000
namespace LawP
open PySem PySem.Spec L2 VE

theorem agI_ok {i : Nat} {d : D} {ρ : Ro} {s : Sl} (h : ρ[i]? = some s) (m : Ms s) : agI i d ρ = some (ρ.set i (.fz d)) := by
  unfold agI VE.stI
  rw [h]
  exact if_pos m
theorem xBin_ok {op : Operator} {a b : XE} {ρ ρ1 ρ2 : Ro} {bx bv : Bv} {x y : D} {v : D × Bool} (h1 : a ρ = .ok bx ρ1) (h2 : b ρ1 = .ok bv ρ2) (dx : deref ρ2 bx = some x) (dy : deref ρ2 bv = some y) (h : binD op x y = some v) : xBin op a b ρ = .ok (.va v.1 v.2) ρ2 := by
  unfold xBin
  rw [h1]
  simp only [Rs.bind]
  rw [h2]
  simp only [dx, dy, h, Option.bind_some, Option.map_some, Rs.of]
theorem xCons_ok {a : XE} {r : XL} {ρ ρ1 ρ2 ρ3 : Ro} {b : Bv} {d : D} {ds : List D} (h1 : a ρ = .ok b ρ1) (h2 : whole b ρ1 = .ok d ρ2) (h3 : r ρ2 = .ok ds ρ3) : xCons a r ρ = .ok (d :: ds) ρ3 := by
  unfold xCons
  rw [h1]
  simp only [Rs.bind]
  rw [h2]
  simp only [Rs.bind]
  rw [h3]
theorem xCons_v {a : XE} {r : XL} {ρ ρ1 ρ3 : Ro} {f : Bool} {d : D} {ds : List D} (h1 : a ρ = .ok (.va d f) ρ1) (h3 : r ρ1 = .ok ds ρ3) : xCons a r ρ = .ok (d :: ds) ρ3 := xCons_ok h1 rfl h3
theorem xLst_ok {es : XL} {ρ ρ1 : Ro} {ds : List D} (h : es ρ = .ok ds ρ1) (n : ds.length ≤ 1000) : xLst es ρ = .ok (.va (.lst ds) true) ρ1 := by
  unfold xLst
  rw [h]
  simp only [Rs.bind]
  rw [if_pos (show szOk ds.length = true from decide_eq_true (by rw [sizeLine_eq]; omega))]
theorem xTup_ok {es : XL} {ρ ρ1 : Ro} {ds : List D} (h : es ρ = .ok ds ρ1) (n : ds.length ≤ 1000) : xTup es ρ = .ok (.va (.tup ds) false) ρ1 := by
  unfold xTup
  rw [h]
  simp only [Rs.bind]
  rw [if_pos (show szOk ds.length = true from decide_eq_true (by rw [sizeLine_eq]; omega))]

theorem turns (k : Nat) {ss : List Int} (ok : SOk2 ss) {cells : List Int} {pos big tot : Int} (h : HOk cells pos big tot) {s0 s5 s6 s7 s8 s9 s10 s11 s12 s13 s14 : Sl} (m6 : Ms s6) (m7 : Ms s7) (m10 : Ms s10) :
    ∃ (p b t : Int) (s6' s7' s10' : Sl), sFor (VE.iRng1 (xC (.int (6)))) (agI 6) (turnB (Mk (k + 5)).call) [s0, .ow .own (HD cells pos big tot), .ow .own (.lst (IL ss)), .fz (.int (prod ss 1)), .ow .own (.lst (fills ss)), s5, s6, s7, s8, s9, s10, s11, s12, s13, s14] = .next [s0, .ow .own (HD cells p b t), .ow .own (.lst (IL ss)), .fz (.int (prod ss 1)), .ow .own (.lst (fills ss)), s5, s6', s7', s8, s9, s10', s11, s12, s13, s14] ∧ HOk cells p b t ∧ Ms s6' ∧ Ms s7' ∧ Ms s10' := by
  let I : Ro → Prop := fun ρ => ∃ p b t s6 s7 s10, ρ = [s0, .ow .own (HD cells p b t), .ow .own (.lst (IL ss)), .fz (.int (prod ss 1)), .ow .own (.lst (fills ss)), s5, s6, s7, s8, s9, s10, s11, s12, s13, s14] ∧ HOk cells p b t ∧ Ms s6 ∧ Ms s7 ∧ Ms s10
  obtain ⟨ρ2, e, p, b, t, s6', s7', s10', er, hh, n6, n7, n10⟩ := loop_inv (asg := agI 6) (body := turnB (Mk (k + 5)).call) I (ds := rngD 0 (6 : Int).toNat) (ρ := [s0, .ow .own (HD cells pos big tot), .ow .own (.lst (IL ss)), .fz (.int (prod ss 1)), .ow .own (.lst (fills ss)), s5, s6, s7, s8, s9, s10, s11, s12, s13, s14]) ⟨pos, big, tot, s6, s7, s10, rfl, h, m6, m7, m10⟩ (by
    rintro d hd ρ ⟨p, b, t, u6, u7, u10, rfl, hh, n6, n7, n10⟩
    obtain ⟨p1, b1, t1, r, e1, h1⟩ := turn_body k ok hh (s0 := s0) (s5 := s5) (s6 := .fz d) (s7 := u7) (s8 := s8) (s9 := s9) (s10 := u10) (s11 := s11) (s12 := s12) (s13 := s13) (s14 := s14) n7 n10
    exact ⟨_, _, agI_ok rfl n6, e1, p1, b1, t1, .fz d, .fz (.int r), .fz (.tup (IL (fil ss r))), rfl, h1, rfl, rfl, rfl⟩)
  exact ⟨p, b, t, s6', s7', s10', by rw [← er]; exact for_rng (by decide) (by decide) e, hh, n6, n7, n10⟩

/-! ### numbers that no filling has -/
def oddB (C : Str → List Sl → Cr) : XS := (sCons (sSet 5 (xOwn (C "_law_by_number") [] (xACons (xVar 2) (xACons (xVar 7) xANil)))) (sCons (sIf (VE.tOr (VE.tNot (tE (xIsi (xVar 5) ["list"]))) (VE.tNot (tE (xOwn (C "_law_like") [] (xACons (xIx (xVar 5) (xC (.int (0)))) (xACons (xVar 7) xANil)))))) (sCons (sRet (xC (.bl false))) sNil) sNil) sNil))
def oddL (C : Str → List Sl → Cr) : XE := (xLst (xCons (xNeg (xC (.int (1)))) (xCons (xVar 3) (xCons (xBin .Add (xVar 3) (xOwn (C "_law_take") [] (xACons (xVar 1) (xACons (xBin .Pow (xC (.int (10))) (xC (.int (12)))) xANil)))) (xCons (xC (.bl true)) (xCons (xC (.bl false)) (xCons (xC (.non)) (xCons (xC (.str (PySem.Str.ofString "0"))) (xCons (xTup (xCons (xC (.int (0))) xNil)) xNil)))))))))

structure NoN (ss : List Int) (d : D) : Prop where
  kd : kd d = true
  no : byN ss d = .lst [d]
  g : good d
theorem odd_body (k : Nat) {ss : List Int} (ok : SOk ss) {d : D} (hd : NoN ss d) {s1 s0 s5 s6 s8 s9 s10 s11 s12 s13 s14 : Sl} (m5 : Ms s5) : oddB (Mk (k + 3)).call [s0, s1, .ow .own (.lst (IL ss)), .fz (.int (prod ss 1)), .ow .own (.lst (fills ss)), s5, s6, .fz d, s8, s9, s10, s11, s12, s13, s14] = .next [s0, s1, .ow .own (.lst (IL ss)), .fz (.int (prod ss 1)), .ow .own (.lst (fills ss)), .fz (.lst [d]), s6, .fz d, s8, s9, s10, s11, s12, s13, s14] := by
  have e1 := c_by k (s0 := .ow .par (.lst (IL ss))) (.inl rfl) ok hd.kd
  have e2 := c_like (k + 2) hd.g
  rw [hd.no] at e1
  generalize (Mk (k + 3)).call = C at e1 e2 ⊢
  unfold oddB
  have x1 : (xOwn (C "_law_by_number") [] (xACons (xVar 2) (xACons (xVar 7) xANil))) [s0, s1, .ow .own (.lst (IL ss)), .fz (.int (prod ss 1)), .ow .own (.lst (fills ss)), s5, s6, .fz d, s8, s9, s10, s11, s12, s13, s14] = .ok (.va (.lst [d]) false) [s0, s1, .ow .own (.lst (IL ss)), .fz (.int (prod ss 1)), .ow .own (.lst (fills ss)), s5, s6, .fz d, s8, s9, s10, s11, s12, s13, s14] := x_own1s (i := 2) (a := xVar 7) (b := false) rfl rfl rfl e1
  rw [seq_next (sSet_ok (ρ2 := [s0, s1, .ow .own (.lst (IL ss)), .fz (.int (prod ss 1)), .ow .own (.lst (fills ss)), .fz (.lst [d]), s6, .fz d, s8, s9, s10, s11, s12, s13, s14]) x1 (putI_ok (ρ := [s0, s1, .ow .own (.lst (IL ss)), .fz (.int (prod ss 1)), .ow .own (.lst (fills ss)), s5, s6, .fz d, s8, s9, s10, s11, s12, s13, s14]) m5))]
  have y1 : tE (xIsi (xVar 5) ["list"]) [s0, s1, .ow .own (.lst (IL ss)), .fz (.int (prod ss 1)), .ow .own (.lst (fills ss)), .fz (.lst [d]), s6, .fz d, s8, s9, s10, s11, s12, s13, s14] = .ok true [s0, s1, .ow .own (.lst (IL ss)), .fz (.int (prod ss 1)), .ow .own (.lst (fills ss)), .fz (.lst [d]), s6, .fz d, s8, s9, s10, s11, s12, s13, s14] := tE_ok (isi_ok (d := .lst [d]) rfl isi_list_list)
  have x2 : (xOwn (C "_law_like") [] (xACons (xIx (xVar 5) (xC (.int (0)))) (xACons (xVar 7) xANil))) [s0, s1, .ow .own (.lst (IL ss)), .fz (.int (prod ss 1)), .ow .own (.lst (fills ss)), .fz (.lst [d]), s6, .fz d, s8, s9, s10, s11, s12, s13, s14] = .ok (.va (.bl true) false) [s0, s1, .ow .own (.lst (IL ss)), .fz (.int (prod ss 1)), .ow .own (.lst (fills ss)), .fz (.lst [d]), s6, .fz d, s8, s9, s10, s11, s12, s13, s14] := x_v2 (ρ1 := [s0, s1, .ow .own (.lst (IL ss)), .fz (.int (prod ss 1)), .ow .own (.lst (fills ss)), .fz (.lst [d]), s6, .fz d, s8, s9, s10, s11, s12, s13, s14]) (x := d) (y := d) (b := false) (b' := false) rfl rfl e2
  have z : (VE.tOr (VE.tNot (tE (xIsi (xVar 5) ["list"]))) (VE.tNot (tE (xOwn (C "_law_like") [] (xACons (xIx (xVar 5) (xC (.int (0)))) (xACons (xVar 7) xANil)))))) [s0, s1, .ow .own (.lst (IL ss)), .fz (.int (prod ss 1)), .ow .own (.lst (fills ss)), .fz (.lst [d]), s6, .fz d, s8, s9, s10, s11, s12, s13, s14] = .ok false [s0, s1, .ow .own (.lst (IL ss)), .fz (.int (prod ss 1)), .ow .own (.lst (fills ss)), .fz (.lst [d]), s6, .fz d, s8, s9, s10, s11, s12, s13, s14] := by
    rw [tOr_f (tNot_ok y1)]
    exact tNot_ok (tE_ok x2)
  exact seq_last (sIf_skip z)

def oddD (m x : Int) : List D := [.int (-1), .int m, .int (m + x), .bl true, .bl false, .non, .str (PySem.Str.ofString "0"), .tup [.int 0]]
theorem oddD_no {ss : List Int} {x : Int} (hx : 0 ≤ x) : ∀ d ∈ oddD (prod ss 1) x, NoN ss d := by
  intro d hd
  simp only [oddD, List.mem_cons, List.not_mem_nil, or_false] at hd
  have hi : ∀ n : Int, ¬ (0 ≤ n ∧ n ≤ prod ss 1 - 1) → NoN ss (.int n) := fun n hn => ⟨rfl, if_neg hn, good_el rfl⟩
  rcases hd with rfl | rfl | rfl | rfl | rfl | rfl | rfl | rfl
  · exact hi _ (by omega)
  · exact hi _ (by omega)
  · exact hi _ (by omega)
  all_goals exact ⟨rfl, rfl, good_el rfl⟩
theorem odd_all (k : Nat) {ss : List Int} (ok : SOk2 ss) {cells : List Int} {pos big tot : Int} (h : HOk cells pos big tot) {s0 s5 s6 s7 s8 s9 s10 s11 s12 s13 s14 : Sl} (m5 : Ms s5) (m7 : Ms s7) :
    ∃ (p b t : Int) (s5' s7' : Sl), sFor (VE.iGen (oddL (Mk (k + 3)).call)) (agI 7) (oddB (Mk (k + 3)).call) [s0, .ow .own (HD cells pos big tot), .ow .own (.lst (IL ss)), .fz (.int (prod ss 1)), .ow .own (.lst (fills ss)), s5, s6, s7, s8, s9, s10, s11, s12, s13, s14] = .next [s0, .ow .own (HD cells p b t), .ow .own (.lst (IL ss)), .fz (.int (prod ss 1)), .ow .own (.lst (fills ss)), s5', s6, s7', s8, s9, s10, s11, s12, s13, s14] ∧ HOk cells p b t ∧ Ms s5' ∧ Ms s7' := by
  obtain ⟨x, p1, b1, t1, e1, x0, x1, h1⟩ := c_take (k + 1) h (m := 10 ^ 12) (by decide) (by decide)
  let I : Ro → Prop := fun ρ => ∃ s5 s7, ρ = [s0, .ow .own (HD cells p1 b1 t1), .ow .own (.lst (IL ss)), .fz (.int (prod ss 1)), .ow .own (.lst (fills ss)), s5, s6, s7, s8, s9, s10, s11, s12, s13, s14] ∧ Ms s5 ∧ Ms s7
  obtain ⟨ρ2, e, s5', s7', er, n5, n7⟩ := loop_inv (asg := agI 7) (body := oddB (Mk (k + 3)).call) I (ds := oddD (prod ss 1) x) (ρ := [s0, .ow .own (HD cells p1 b1 t1), .ow .own (.lst (IL ss)), .fz (.int (prod ss 1)), .ow .own (.lst (fills ss)), s5, s6, s7, s8, s9, s10, s11, s12, s13, s14]) ⟨s5, s7, rfl, m5, m7⟩ (by
    rintro d hd ρ ⟨u5, u7, rfl, n5, n7⟩
    exact ⟨_, _, agI_ok rfl n7, odd_body k ok.toSOk (oddD_no x0 d hd) n5, .fz (.lst [d]), .fz d, rfl, rfl, rfl⟩)
  refine ⟨p1, b1, t1, s5', s7', ?_, h1, n5, n7⟩
  rw [← er]
  generalize (Mk (k + 3)).call = C at e1 e ⊢
  refine for_gen (ds := oddD (prod ss 1) x) (ρ1 := [s0, .ow .own (HD cells p1 b1 t1), .ow .own (.lst (IL ss)), .fz (.int (prod ss 1)), .ow .own (.lst (fills ss)), s5, s6, s7, s8, s9, s10, s11, s12, s13, s14]) (fl := true) ?_ e
  have y1 : (xOwn (C "_law_take") [] (xACons (xVar 1) (xACons (xBin .Pow (xC (.int (10))) (xC (.int (12)))) xANil))) [s0, .ow .own (HD cells pos big tot), .ow .own (.lst (IL ss)), .fz (.int (prod ss 1)), .ow .own (.lst (fills ss)), s5, s6, s7, s8, s9, s10, s11, s12, s13, s14] = .ok (.va (.int x) false) [s0, .ow .own (HD cells p1 b1 t1), .ow .own (.lst (IL ss)), .fz (.int (prod ss 1)), .ow .own (.lst (fills ss)), s5, s6, s7, s8, s9, s10, s11, s12, s13, s14] := x_own1p (i := 1) (x := .int (10 ^ 12)) (b := false) rfl rfl e1 rfl
  have y2 : (xBin .Add (xVar 3) (xOwn (C "_law_take") [] (xACons (xVar 1) (xACons (xBin .Pow (xC (.int (10))) (xC (.int (12)))) xANil)))) [s0, .ow .own (HD cells pos big tot), .ow .own (.lst (IL ss)), .fz (.int (prod ss 1)), .ow .own (.lst (fills ss)), s5, s6, s7, s8, s9, s10, s11, s12, s13, s14] = .ok (.va (.int (prod ss 1 + x)) false) [s0, .ow .own (HD cells p1 b1 t1), .ow .own (.lst (IL ss)), .fz (.int (prod ss 1)), .ow .own (.lst (fills ss)), s5, s6, s7, s8, s9, s10, s11, s12, s13, s14] := by
    exact xBin_ok (ρ1 := [s0, .ow .own (HD cells pos big tot), .ow .own (.lst (IL ss)), .fz (.int (prod ss 1)), .ow .own (.lst (fills ss)), s5, s6, s7, s8, s9, s10, s11, s12, s13, s14]) (bx := .va (.int (prod ss 1)) false) (v := (.int (prod ss 1 + x), false)) rfl y1 rfl rfl rfl
  unfold oddL
  refine xLst_ok (xCons_v rfl (xCons_v rfl (xCons_v y2 rfl))) ?_
  show 8 ≤ 1000
  decide
end LawP
end

section
set_option Elab.async false
set_option linter.all false
set_option maxRecDepth 100000
set_option maxHeartbeats 4000000
namespace LawP
open PySem PySem.Spec L2 VE

/-! ### spoilt rows -/
def spB (C : Str → List Sl → Cr) : XS := (sCons (sSet 11 (xOwn (C "_law_spoilt_row") [] (xACons (xVar 1) (xACons (xVar 2) (xACons (xIx (xVar 4) (xOwn (C "_law_take") [] (xACons (xVar 1) (xACons (xVar 3) xANil)))) xANil))))) (sCons (sSet 12 (xOwn (C "_law_is_filling") [] (xACons (xVar 2) (xACons (xVar 11) xANil)))) (sCons (sSet 5 (xOwn (C "_law_its_number") [] (xACons (xVar 2) (xACons (xVar 11) xANil)))) (sCons (sIf (VE.tOr (VE.tNot (tE (xOwn (C "_law_truth") [] (xACons (xOwn (C "is_filling") [] (xACons (xVar 2) (xACons (xVar 11) xANil))) (xACons (xVar 12) xANil))))) (tCm (xCmp .Eq (xIsi (xVar 5) ["list"]) (xVar 12)))) (sCons (sRet (xC (.bl false))) sNil) sNil) (sCons (sIf (VE.tOr (VE.tAnd (tE (xVar 12)) (tCm (xCmp .NotEq (xVar 5) (xOwn (C "_law_number") [] (xACons (xVar 2) (xACons (xVar 11) xANil)))))) (VE.tAnd (VE.tNot (tE (xVar 12))) (VE.tNot (tE (xOwn (C "_law_like") [] (xACons (xIx (xVar 5) (xC (.int (0)))) (xACons (xVar 11) xANil))))))) (sCons (sRet (xC (.bl false))) sNil) sNil) sNil)))))
def spR (C : Str → List Sl → Cr) : XS := (sCons (sSet 12 (xOwn (C "_law_is_filling") [] (xACons (xVar 2) (xACons (xVar 11) xANil)))) (sCons (sSet 5 (xOwn (C "_law_its_number") [] (xACons (xVar 2) (xACons (xVar 11) xANil)))) (sCons (sIf (VE.tOr (VE.tNot (tE (xOwn (C "_law_truth") [] (xACons (xOwn (C "is_filling") [] (xACons (xVar 2) (xACons (xVar 11) xANil))) (xACons (xVar 12) xANil))))) (tCm (xCmp .Eq (xIsi (xVar 5) ["list"]) (xVar 12)))) (sCons (sRet (xC (.bl false))) sNil) sNil) (sCons (sIf (VE.tOr (VE.tAnd (tE (xVar 12)) (tCm (xCmp .NotEq (xVar 5) (xOwn (C "_law_number") [] (xACons (xVar 2) (xACons (xVar 11) xANil)))))) (VE.tAnd (VE.tNot (tE (xVar 12))) (VE.tNot (tE (xOwn (C "_law_like") [] (xACons (xIx (xVar 5) (xC (.int (0)))) (xACons (xVar 11) xANil))))))) (sCons (sRet (xC (.bl false))) sNil) sNil) sNil))))
theorem its_list {ss : List Int} {d : D} : (tyD (itsN ss d)).bind (fun t => isiD t ["list"]) = some (!isFr ss d) := by
  unfold itsN
  by_cases q : isFr ss d = true
  · rw [if_pos q, q]
    exact isi_int_list
  · rw [if_neg q]
    have q' : isFr ss d = false := by simpa using q
    rw [q']
    exact isi_list_list
theorem sp_rest {C : Str → List Sl → Cr} {ss : List Int} {d h : D} {u w s0 s5 s6 s7 s8 s9 s10 s12 s13 s14 : Sl} (m5 : Ms s5) (m12 : Ms s12)
    (hT : ∀ v : Bool, C "_law_truth" [.fz (.bl v), .fz (.bl v)] = .ret (.bl true) false [.fz (.bl v), .fz (.bl v)])
    (hL : (xOwn (C "_law_is_filling") [] (xACons (xVar 2) (xACons (xVar 11) xANil))) [s0, .ow .own (h), .ow .own (.lst (IL ss)), .fz (.int (prod ss 1)), .ow .own (.lst (fills ss)), s5, s6, s7, s8, s9, s10, u, s12, s13, s14] = .ok (.va (.bl (isFr ss d)) false) [s0, .ow .own (h), .ow .own (.lst (IL ss)), .fz (.int (prod ss 1)), .ow .own (.lst (fills ss)), s5, s6, s7, s8, s9, s10, u, s12, s13, s14])
    (hI : (xOwn (C "_law_its_number") [] (xACons (xVar 2) (xACons (xVar 11) xANil))) [s0, .ow .own (h), .ow .own (.lst (IL ss)), .fz (.int (prod ss 1)), .ow .own (.lst (fills ss)), s5, s6, s7, s8, s9, s10, u, .fz (.bl (isFr ss d)), s13, s14] = .ok (.va (itsN ss d) false) [s0, .ow .own (h), .ow .own (.lst (IL ss)), .fz (.int (prod ss 1)), .ow .own (.lst (fills ss)), s5, s6, s7, s8, s9, s10, w, .fz (.bl (isFr ss d)), s13, s14])
    (hF : (xOwn (C "is_filling") [] (xACons (xVar 2) (xACons (xVar 11) xANil))) [s0, .ow .own (h), .ow .own (.lst (IL ss)), .fz (.int (prod ss 1)), .ow .own (.lst (fills ss)), .fz (itsN ss d), s6, s7, s8, s9, s10, w, .fz (.bl (isFr ss d)), s13, s14] = .ok (.va (.bl (isFr ss d)) false) [s0, .ow .own (h), .ow .own (.lst (IL ss)), .fz (.int (prod ss 1)), .ow .own (.lst (fills ss)), .fz (itsN ss d), s6, s7, s8, s9, s10, w, .fz (.bl (isFr ss d)), s13, s14])
    (hN : isFr ss d = true → (xOwn (C "_law_number") [] (xACons (xVar 2) (xACons (xVar 11) xANil))) [s0, .ow .own (h), .ow .own (.lst (IL ss)), .fz (.int (prod ss 1)), .ow .own (.lst (fills ss)), .fz (itsN ss d), s6, s7, s8, s9, s10, w, .fz (.bl (isFr ss d)), s13, s14] = .ok (.va (.int (numb ss (rowOf d) 0)) false) [s0, .ow .own (h), .ow .own (.lst (IL ss)), .fz (.int (prod ss 1)), .ow .own (.lst (fills ss)), .fz (itsN ss d), s6, s7, s8, s9, s10, w, .fz (.bl (isFr ss d)), s13, s14])
    (hK : isFr ss d = false → (xOwn (C "_law_like") [] (xACons (xIx (xVar 5) (xC (.int (0)))) (xACons (xVar 11) xANil))) [s0, .ow .own (h), .ow .own (.lst (IL ss)), .fz (.int (prod ss 1)), .ow .own (.lst (fills ss)), .fz (itsN ss d), s6, s7, s8, s9, s10, w, .fz (.bl (isFr ss d)), s13, s14] = .ok (.va (.bl true) false) [s0, .ow .own (h), .ow .own (.lst (IL ss)), .fz (.int (prod ss 1)), .ow .own (.lst (fills ss)), .fz (itsN ss d), s6, s7, s8, s9, s10, w, .fz (.bl (isFr ss d)), s13, s14]) :
    spR C [s0, .ow .own (h), .ow .own (.lst (IL ss)), .fz (.int (prod ss 1)), .ow .own (.lst (fills ss)), s5, s6, s7, s8, s9, s10, u, s12, s13, s14] = .next [s0, .ow .own (h), .ow .own (.lst (IL ss)), .fz (.int (prod ss 1)), .ow .own (.lst (fills ss)), .fz (itsN ss d), s6, s7, s8, s9, s10, w, .fz (.bl (isFr ss d)), s13, s14] := by
  unfold spR
  rw [seq_next (sSet_ok (ρ2 := [s0, .ow .own (h), .ow .own (.lst (IL ss)), .fz (.int (prod ss 1)), .ow .own (.lst (fills ss)), s5, s6, s7, s8, s9, s10, u, .fz (.bl (isFr ss d)), s13, s14]) hL (putI_ok (ρ := [s0, .ow .own (h), .ow .own (.lst (IL ss)), .fz (.int (prod ss 1)), .ow .own (.lst (fills ss)), s5, s6, s7, s8, s9, s10, u, s12, s13, s14]) m12))]
  rw [seq_next (sSet_ok (ρ2 := [s0, .ow .own (h), .ow .own (.lst (IL ss)), .fz (.int (prod ss 1)), .ow .own (.lst (fills ss)), .fz (itsN ss d), s6, s7, s8, s9, s10, w, .fz (.bl (isFr ss d)), s13, s14]) hI (putI_ok (ρ := [s0, .ow .own (h), .ow .own (.lst (IL ss)), .fz (.int (prod ss 1)), .ow .own (.lst (fills ss)), s5, s6, s7, s8, s9, s10, w, .fz (.bl (isFr ss d)), s13, s14]) m5))]
  have y1 : (xOwn (C "_law_truth") [] (xACons (xOwn (C "is_filling") [] (xACons (xVar 2) (xACons (xVar 11) xANil))) (xACons (xVar 12) xANil))) [s0, .ow .own (h), .ow .own (.lst (IL ss)), .fz (.int (prod ss 1)), .ow .own (.lst (fills ss)), .fz (itsN ss d), s6, s7, s8, s9, s10, w, .fz (.bl (isFr ss d)), s13, s14] = .ok (.va (.bl true) false) [s0, .ow .own (h), .ow .own (.lst (IL ss)), .fz (.int (prod ss 1)), .ow .own (.lst (fills ss)), .fz (itsN ss d), s6, s7, s8, s9, s10, w, .fz (.bl (isFr ss d)), s13, s14] := x_v2 (ρ2 := [s0, .ow .own (h), .ow .own (.lst (IL ss)), .fz (.int (prod ss 1)), .ow .own (.lst (fills ss)), .fz (itsN ss d), s6, s7, s8, s9, s10, w, .fz (.bl (isFr ss d)), s13, s14]) (y := .bl (isFr ss d)) (b' := false) hF rfl (hT _)
  have y2 : tCm (xCmp .Eq (xIsi (xVar 5) ["list"]) (xVar 12)) [s0, .ow .own (h), .ow .own (.lst (IL ss)), .fz (.int (prod ss 1)), .ow .own (.lst (fills ss)), .fz (itsN ss d), s6, s7, s8, s9, s10, w, .fz (.bl (isFr ss d)), s13, s14] = .ok false [s0, .ow .own (h), .ow .own (.lst (IL ss)), .fz (.int (prod ss 1)), .ow .own (.lst (fills ss)), .fz (itsN ss d), s6, s7, s8, s9, s10, w, .fz (.bl (isFr ss d)), s13, s14] := tCm_ok (ρ1 := [s0, .ow .own (h), .ow .own (.lst (IL ss)), .fz (.int (prod ss 1)), .ow .own (.lst (fills ss)), .fz (itsN ss d), s6, s7, s8, s9, s10, w, .fz (.bl (isFr ss d)), s13, s14]) (bv := .va (.bl (isFr ss d)) false) (isi_ok (d := itsN ss d) rfl its_list) rfl rfl rfl (by
    rw [cm_bb]
    cases isFr ss d <;> rfl)
  have z1 : (VE.tOr (VE.tNot (tE (xOwn (C "_law_truth") [] (xACons (xOwn (C "is_filling") [] (xACons (xVar 2) (xACons (xVar 11) xANil))) (xACons (xVar 12) xANil))))) (tCm (xCmp .Eq (xIsi (xVar 5) ["list"]) (xVar 12)))) [s0, .ow .own (h), .ow .own (.lst (IL ss)), .fz (.int (prod ss 1)), .ow .own (.lst (fills ss)), .fz (itsN ss d), s6, s7, s8, s9, s10, w, .fz (.bl (isFr ss d)), s13, s14] = .ok false [s0, .ow .own (h), .ow .own (.lst (IL ss)), .fz (.int (prod ss 1)), .ow .own (.lst (fills ss)), .fz (itsN ss d), s6, s7, s8, s9, s10, w, .fz (.bl (isFr ss d)), s13, s14] := by
    rw [tOr_f (tNot_ok (tE_ok y1))]
    exact y2
  rw [seq_next (sIf_skip z1)]
  have y3 : tE (xVar 12) [s0, .ow .own (h), .ow .own (.lst (IL ss)), .fz (.int (prod ss 1)), .ow .own (.lst (fills ss)), .fz (itsN ss d), s6, s7, s8, s9, s10, w, .fz (.bl (isFr ss d)), s13, s14] = .ok (isFr ss d) [s0, .ow .own (h), .ow .own (.lst (IL ss)), .fz (.int (prod ss 1)), .ow .own (.lst (fills ss)), .fz (itsN ss d), s6, s7, s8, s9, s10, w, .fz (.bl (isFr ss d)), s13, s14] := tE_ok (fl := false) rfl
  have z2 : (VE.tOr (VE.tAnd (tE (xVar 12)) (tCm (xCmp .NotEq (xVar 5) (xOwn (C "_law_number") [] (xACons (xVar 2) (xACons (xVar 11) xANil)))))) (VE.tAnd (VE.tNot (tE (xVar 12))) (VE.tNot (tE (xOwn (C "_law_like") [] (xACons (xIx (xVar 5) (xC (.int (0)))) (xACons (xVar 11) xANil))))))) [s0, .ow .own (h), .ow .own (.lst (IL ss)), .fz (.int (prod ss 1)), .ow .own (.lst (fills ss)), .fz (itsN ss d), s6, s7, s8, s9, s10, w, .fz (.bl (isFr ss d)), s13, s14] = .ok false [s0, .ow .own (h), .ow .own (.lst (IL ss)), .fz (.int (prod ss 1)), .ow .own (.lst (fills ss)), .fz (itsN ss d), s6, s7, s8, s9, s10, w, .fz (.bl (isFr ss d)), s13, s14] := by
    by_cases q : isFr ss d = true
    · have n1 := hN q
      have n2 : tCm (xCmp .NotEq (xVar 5) (xOwn (C "_law_number") [] (xACons (xVar 2) (xACons (xVar 11) xANil)))) [s0, .ow .own (h), .ow .own (.lst (IL ss)), .fz (.int (prod ss 1)), .ow .own (.lst (fills ss)), .fz (itsN ss d), s6, s7, s8, s9, s10, w, .fz (.bl (isFr ss d)), s13, s14] = .ok false [s0, .ow .own (h), .ow .own (.lst (IL ss)), .fz (.int (prod ss 1)), .ow .own (.lst (fills ss)), .fz (itsN ss d), s6, s7, s8, s9, s10, w, .fz (.bl (isFr ss d)), s13, s14] := tCm_ok (bx := .va (itsN ss d) false) (x := itsN ss d) (ρ1 := [s0, .ow .own (h), .ow .own (.lst (IL ss)), .fz (.int (prod ss 1)), .ow .own (.lst (fills ss)), .fz (itsN ss d), s6, s7, s8, s9, s10, w, .fz (.bl (isFr ss d)), s13, s14]) rfl n1 rfl rfl (by
        unfold itsN
        rw [if_pos q, cm_ne, decide_eq_true rfl]
        rfl)
      have t1 : VE.tAnd (tE (xVar 12)) (tCm (xCmp .NotEq (xVar 5) (xOwn (C "_law_number") [] (xACons (xVar 2) (xACons (xVar 11) xANil))))) [s0, .ow .own (h), .ow .own (.lst (IL ss)), .fz (.int (prod ss 1)), .ow .own (.lst (fills ss)), .fz (itsN ss d), s6, s7, s8, s9, s10, w, .fz (.bl (isFr ss d)), s13, s14] = .ok false [s0, .ow .own (h), .ow .own (.lst (IL ss)), .fz (.int (prod ss 1)), .ow .own (.lst (fills ss)), .fz (itsN ss d), s6, s7, s8, s9, s10, w, .fz (.bl (isFr ss d)), s13, s14] := by
        rw [tAnd_t (y3.trans (congrArg (fun v => Rs.ok v [s0, .ow .own (h), .ow .own (.lst (IL ss)), .fz (.int (prod ss 1)), .ow .own (.lst (fills ss)), .fz (itsN ss d), s6, s7, s8, s9, s10, w, .fz (.bl (isFr ss d)), s13, s14]) q))]
        exact n2
      have t2 : VE.tNot (tE (xVar 12)) [s0, .ow .own (h), .ow .own (.lst (IL ss)), .fz (.int (prod ss 1)), .ow .own (.lst (fills ss)), .fz (itsN ss d), s6, s7, s8, s9, s10, w, .fz (.bl (isFr ss d)), s13, s14] = .ok false [s0, .ow .own (h), .ow .own (.lst (IL ss)), .fz (.int (prod ss 1)), .ow .own (.lst (fills ss)), .fz (itsN ss d), s6, s7, s8, s9, s10, w, .fz (.bl (isFr ss d)), s13, s14] := by
        exact (tNot_ok y3).trans (congrArg (fun v => Rs.ok (!v) [s0, .ow .own (h), .ow .own (.lst (IL ss)), .fz (.int (prod ss 1)), .ow .own (.lst (fills ss)), .fz (itsN ss d), s6, s7, s8, s9, s10, w, .fz (.bl (isFr ss d)), s13, s14]) q)
      rw [tOr_f t1]
      exact tAnd_f t2
    · have q' : isFr ss d = false := by simpa using q
      have n1 := hK q'
      have t1 : VE.tAnd (tE (xVar 12)) (tCm (xCmp .NotEq (xVar 5) (xOwn (C "_law_number") [] (xACons (xVar 2) (xACons (xVar 11) xANil))))) [s0, .ow .own (h), .ow .own (.lst (IL ss)), .fz (.int (prod ss 1)), .ow .own (.lst (fills ss)), .fz (itsN ss d), s6, s7, s8, s9, s10, w, .fz (.bl (isFr ss d)), s13, s14] = .ok false [s0, .ow .own (h), .ow .own (.lst (IL ss)), .fz (.int (prod ss 1)), .ow .own (.lst (fills ss)), .fz (itsN ss d), s6, s7, s8, s9, s10, w, .fz (.bl (isFr ss d)), s13, s14] := by
        exact tAnd_f (y3.trans (congrArg (fun v => Rs.ok v [s0, .ow .own (h), .ow .own (.lst (IL ss)), .fz (.int (prod ss 1)), .ow .own (.lst (fills ss)), .fz (itsN ss d), s6, s7, s8, s9, s10, w, .fz (.bl (isFr ss d)), s13, s14]) q'))
      have t2 : VE.tNot (tE (xVar 12)) [s0, .ow .own (h), .ow .own (.lst (IL ss)), .fz (.int (prod ss 1)), .ow .own (.lst (fills ss)), .fz (itsN ss d), s6, s7, s8, s9, s10, w, .fz (.bl (isFr ss d)), s13, s14] = .ok true [s0, .ow .own (h), .ow .own (.lst (IL ss)), .fz (.int (prod ss 1)), .ow .own (.lst (fills ss)), .fz (itsN ss d), s6, s7, s8, s9, s10, w, .fz (.bl (isFr ss d)), s13, s14] := by
        exact (tNot_ok y3).trans (congrArg (fun v => Rs.ok (!v) [s0, .ow .own (h), .ow .own (.lst (IL ss)), .fz (.int (prod ss 1)), .ow .own (.lst (fills ss)), .fz (itsN ss d), s6, s7, s8, s9, s10, w, .fz (.bl (isFr ss d)), s13, s14]) q')
      rw [tOr_f t1, tAnd_t t2]
      exact tNot_ok (tE_ok n1)
  exact seq_last (sIf_skip z2)

theorem putI_own {i : Nat} {d : D} {ρ : Ro} (m : mayStore ρ[i]? = true) : putI i (.va d true) ρ = .next (ρ.set i (.ow .own d)) := by
  show Rf.of (VE.stI i (.ow .own d) ρ) = _
  unfold VE.stI
  rw [if_pos m]
  rfl
theorem ixl {d : D} {ρ : Ro} (h : ρ[5]? = some (.fz (.lst [d]))) : xIx (xVar 5) (xC (.int (0))) ρ = .ok (.va d false) ρ := by
  unfold xIx xVar
  rw [h]
  rfl
theorem its_no {ss : List Int} {d : D} (q : isFr ss d = false) : itsN ss d = .lst [d] := by
  unfold itsN
  rw [q]
  rfl
theorem sp_fz (k : Nat) {ss : List Int} (ok : SOk ss) {d h : D} (hd : Row d) {s0 s5 s6 s7 s8 s9 s10 s12 s13 s14 : Sl} (m5 : Ms s5) (m12 : Ms s12) : spR (Mk (k + 5)).call [s0, .ow .own (h), .ow .own (.lst (IL ss)), .fz (.int (prod ss 1)), .ow .own (.lst (fills ss)), s5, s6, s7, s8, s9, s10, .fz d, s12, s13, s14] = .next [s0, .ow .own (h), .ow .own (.lst (IL ss)), .fz (.int (prod ss 1)), .ow .own (.lst (fills ss)), .fz (itsN ss d), s6, s7, s8, s9, s10, .fz d, .fz (.bl (isFr ss d)), s13, s14] := by
  have hT : ∀ v : Bool, (Mk (k + 5)).call "_law_truth" [.fz (.bl v), .fz (.bl v)] = .ret (.bl true) false [.fz (.bl v), .fz (.bl v)] := fun v => by
    have := c_truth (k + 4) (a := v) (b := v)
    rw [decide_eq_true rfl] at this
    exact this
  have e1 := c_lisfil (k + 3) (ss := ss) ok.l hd.ok
  have e2 := c_its k ok hd.ok
  have e3 := c_isfil (k + 2) (ss := ss) hd.ok
  have e4 : isFr ss d = true → _ := c_lnum (k + 4) ok (r := d)
  have e5 := c_like (k + 4) hd.g
  generalize (Mk (k + 5)).call = C at hT e1 e2 e3 e4 e5 ⊢
  refine sp_rest m5 m12 hT ?_ ?_ ?_ ?_ ?_
  · exact x_own1s (i := 2) (a := xVar 11) (x := d) (b := false) rfl rfl rfl e1
  · exact x_own1s (i := 2) (a := xVar 11) (x := d) (b := false) rfl rfl rfl e2
  · exact x_own1s (i := 2) (a := xVar 11) (x := d) (b := false) rfl rfl rfl e3
  · exact fun q => x_own1s (i := 2) (a := xVar 11) (x := d) (b := false) rfl rfl rfl (e4 q)
  · exact fun q => x_v2 (ixl (d := d) (by rw [its_no q]; rfl)) (b' := false) (y := d) (ρ2 := [s0, .ow .own (h), .ow .own (.lst (IL ss)), .fz (.int (prod ss 1)), .ow .own (.lst (fills ss)), .fz (itsN ss d), s6, s7, s8, s9, s10, .fz d, .fz (.bl (isFr ss d)), s13, s14]) rfl e5
/-- two lists lent, none changed -/
theorem x_own2s {C : List Sl → Cr} {i j : Nat} {ρ : Ro} {S U d : D} {fl : Bool} (ij : i ≠ j) (h : ρ[i]? = some (.ow .own S)) (hj : ρ[j]? = some (.ow .own U)) (e : C [.ow .par S, .ow .par U] = .ret d fl [.ow .par S, .ow .par U]) : xOwn C [] (xACons (xVar i) (xACons (xVar j) xANil)) ρ = .ok (.va d fl) ρ :=
  x_own2 ij h hj e (set_self h)
/-- two lists lent, the second one told on -/
theorem x_own2t {C : List Sl → Cr} {i j : Nat} {ρ : Ro} {S U d : D} {fl : Bool} (ij : i ≠ j) (h : ρ[i]? = some (.ow .own S)) (hj : ρ[j]? = some (.ow .own U)) (e : C [.ow .par S, .ow .par U] = .ret d fl [.ow .par S, .pz U]) {ρ2 : Ro} (hr : ρ.set j (.fz U) = ρ2) : xOwn C [] (xACons (xVar i) (xACons (xVar j) xANil)) ρ = .ok (.va d fl) ρ2 := by
  subst hr
  have hl : lend ρ [.at i, .at j] = some [.ow .par S, .ow .par U] := by simp [lend, lend1, atsOf, h, hj, ij]
  have g := give2 (a := .ow .par S) (b := .pz U) (bs := []) (as := []) h hj ij rfl
  have g' : giveBack [.at i, .at j] [.ow .par S, .pz U] ρ = ρ.set j (.fz U) := by
    rw [g, show comb (.ow .own S) (some (.ow .par S)) = .ow .own S from rfl, set_self h]
    rfl
  exact xOwn_ok (xACons_ok (at_own h) (xACons_ok (at_own hj) rfl)) hl e g'
theorem sp_ow (k : Nat) {ss : List Int} (ok : SOk ss) {d h : D} (hd : Row d) {s0 s5 s6 s7 s8 s9 s10 s12 s13 s14 : Sl} (m5 : Ms s5) (m12 : Ms s12) : ∃ w, spR (Mk (k + 5)).call [s0, .ow .own (h), .ow .own (.lst (IL ss)), .fz (.int (prod ss 1)), .ow .own (.lst (fills ss)), s5, s6, s7, s8, s9, s10, .ow .own d, s12, s13, s14] = .next [s0, .ow .own (h), .ow .own (.lst (IL ss)), .fz (.int (prod ss 1)), .ow .own (.lst (fills ss)), .fz (itsN ss d), s6, s7, s8, s9, s10, w, .fz (.bl (isFr ss d)), s13, s14] ∧ Ms w := by
  have hT : ∀ v : Bool, (Mk (k + 5)).call "_law_truth" [.fz (.bl v), .fz (.bl v)] = .ret (.bl true) false [.fz (.bl v), .fz (.bl v)] := fun v => by
    have := c_truth (k + 4) (a := v) (b := v)
    rw [decide_eq_true rfl] at this
    exact this
  have e1 := c_lisfilO (k + 3) (ss := ss) ok.l hd.ok
  have e2 := c_itsO k ok hd.ok
  have e3 := c_isfilO (k + 2) (ss := ss) hd.ok
  have e3' := c_isfil (k + 2) (ss := ss) hd.ok
  have e4 : isFr ss d = true → _ := c_lnumO (k + 4) ok (r := d)
  have e5 := c_like (k + 4) hd.g
  generalize (Mk (k + 5)).call = C at hT e1 e2 e3 e3' e4 e5 ⊢
  by_cases q : isFr ss d = true
  · rw [if_pos q] at e2
    refine ⟨.ow .own d, sp_rest m5 m12 hT ?_ ?_ ?_ ?_ ?_, rfl⟩
    · exact x_own2s (by decide) rfl rfl e1
    · exact x_own2s (by decide) rfl rfl e2
    · exact x_own2s (by decide) rfl rfl e3
    · exact fun q => x_own2s (by decide) rfl rfl (e4 q)
    · intro q'
      rw [q] at q'
      cases q'
  · rw [if_neg q] at e2
    refine ⟨.fz d, sp_rest m5 m12 hT ?_ ?_ ?_ ?_ ?_, rfl⟩
    · exact x_own2s (by decide) rfl rfl e1
    · exact x_own2t (by decide) rfl rfl e2 rfl
    · exact x_own1s (i := 2) (a := xVar 11) (x := d) (b := false) rfl rfl rfl e3'
    · exact fun q' => absurd q' q
    · exact fun q => x_v2 (ixl (d := d) (by rw [its_no q]; rfl)) (b' := false) (y := d) (ρ2 := [s0, .ow .own (h), .ow .own (.lst (IL ss)), .fz (.int (prod ss 1)), .ow .own (.lst (fills ss)), .fz (itsN ss d), s6, s7, s8, s9, s10, .fz d, .fz (.bl (isFr ss d)), s13, s14]) rfl e5
/-- two lists lent and a plain thing, the first list changed -/
theorem x_own2v {C : List Sl → Cr} {i j : Nat} {ρ ρ1 : Ro} {T T' S S' U x d : D} {y : Sl} {fl b : Bool} {a : XE} (ij : i ≠ j) (h0 : ρ[i]? = some (.ow .own T)) (hj0 : ρ[j]? = some (.ow .own T')) (ha : a ρ = .ok (.va x b) ρ1) (h : ρ1[i]? = some (.ow .own S)) (hj : ρ1[j]? = some (.ow .own U)) (e : C [.ow .par S, .ow .par U, .fz x] = .ret d fl [.ow .par S', .ow .par U, y]) {ρ2 : Ro} (hr : ρ1.set i (.ow .own S') = ρ2) : xOwn C [] (xACons (xVar i) (xACons (xVar j) (xACons a xANil))) ρ = .ok (.va d fl) ρ2 := by
  subst hr
  have hl : lend ρ1 [.at i, .at j, .va x false] = some [.ow .par S, .ow .par U, .fz x] := by simp [lend, lend1, atsOf, h, hj, ij]
  have hj' : (ρ1.set i (comb (.ow .own S) (some (.ow .par S'))))[j]? = some (.ow .own U) := by rw [List.getElem?_set, if_neg ij, hj]
  have g := give2 (a := .ow .par S') (b := .ow .par U) (bs := [.va x false]) (as := [y]) h hj ij rfl
  have g' : giveBack [.at i, .at j, .va x false] [.ow .par S', .ow .par U, y] ρ1 = ρ1.set i (.ow .own S') := by
    rw [g]
    exact set_self hj'
  exact xOwn_ok (xACons_ok (at_own h0) (xACons_ok (at_own hj0) (xACons_ok ha rfl))) hl e g'

theorem sp_body (k : Nat) {ss : List Int} (ok : SOk2 ss) {cells : List Int} {pos big tot : Int} (h : HOk cells pos big tot) {s0 s5 s6 s7 s8 s9 s10 s11 s12 s13 s14 : Sl} (m5 : Ms s5) (m11 : Ms s11) (m12 : Ms s12) :
    ∃ (p b t : Int) (s5' s11' s12' : Sl), spB (Mk (k + 5)).call [s0, .ow .own (HD cells pos big tot), .ow .own (.lst (IL ss)), .fz (.int (prod ss 1)), .ow .own (.lst (fills ss)), s5, s6, s7, s8, s9, s10, s11, s12, s13, s14] = .next [s0, .ow .own (HD cells p b t), .ow .own (.lst (IL ss)), .fz (.int (prod ss 1)), .ow .own (.lst (fills ss)), s5', s6, s7, s8, s9, s10, s11', s12', s13, s14] ∧ HOk cells p b t ∧ Ms s5' ∧ Ms s11' ∧ Ms s12' := by
  have hp := ok.p
  have h0 := prod_pos ss 1 (by decide) ok.b
  obtain ⟨r, p1, b1, t1, e1, r0, r1, h1⟩ := c_take (k + 3) h (m := prod ss 1) h0 (by
    have : (10 : Int) ^ 18 = 1000000000000000000 := by decide
    omega)
  obtain ⟨d, f, p2, b2, t2, e2, h2, hd⟩ := c_spoilt (k + 1) (ss := ss) (fs := fil ss r) (fil_len ss r) ok.l h1
  have hat := fills_at r0 r1
  have em : spB (Mk (k + 5)).call = sCons (sSet 11 (xOwn ((Mk (k + 5)).call "_law_spoilt_row") [] (xACons (xVar 1) (xACons (xVar 2) (xACons (xIx (xVar 4) (xOwn ((Mk (k + 5)).call "_law_take") [] (xACons (xVar 1) (xACons (xVar 3) xANil)))) xANil))))) (spR (Mk (k + 5)).call) := rfl
  have x : sSet 11 (xOwn ((Mk (k + 5)).call "_law_spoilt_row") [] (xACons (xVar 1) (xACons (xVar 2) (xACons (xIx (xVar 4) (xOwn ((Mk (k + 5)).call "_law_take") [] (xACons (xVar 1) (xACons (xVar 3) xANil)))) xANil)))) [s0, .ow .own (HD cells pos big tot), .ow .own (.lst (IL ss)), .fz (.int (prod ss 1)), .ow .own (.lst (fills ss)), s5, s6, s7, s8, s9, s10, s11, s12, s13, s14] = putI 11 (.va d f) [s0, .ow .own (HD cells p2 b2 t2), .ow .own (.lst (IL ss)), .fz (.int (prod ss 1)), .ow .own (.lst (fills ss)), s5, s6, s7, s8, s9, s10, s11, s12, s13, s14] := by
    generalize (Mk (k + 5)).call = C at e1 e2 ⊢
    have x1 : (xOwn (C "_law_take") [] (xACons (xVar 1) (xACons (xVar 3) xANil))) [s0, .ow .own (HD cells pos big tot), .ow .own (.lst (IL ss)), .fz (.int (prod ss 1)), .ow .own (.lst (fills ss)), s5, s6, s7, s8, s9, s10, s11, s12, s13, s14] = .ok (.va (.int r) false) [s0, .ow .own (HD cells p1 b1 t1), .ow .own (.lst (IL ss)), .fz (.int (prod ss 1)), .ow .own (.lst (fills ss)), s5, s6, s7, s8, s9, s10, s11, s12, s13, s14] := x_own1p (i := 1) (a := xVar 3) (x := .int (prod ss 1)) (b := false) rfl rfl e1 rfl
    have x2 : xIx (xVar 4) (xOwn (C "_law_take") [] (xACons (xVar 1) (xACons (xVar 3) xANil))) [s0, .ow .own (HD cells pos big tot), .ow .own (.lst (IL ss)), .fz (.int (prod ss 1)), .ow .own (.lst (fills ss)), s5, s6, s7, s8, s9, s10, s11, s12, s13, s14] = .ok (.va (.tup (IL (fil ss r))) false) [s0, .ow .own (HD cells p1 b1 t1), .ow .own (.lst (IL ss)), .fz (.int (prod ss 1)), .ow .own (.lst (fills ss)), s5, s6, s7, s8, s9, s10, s11, s12, s13, s14] := xIx_own (i := 4) (m := .own) (m' := .own) rfl x1 rfl hat
    have x3 : (xOwn (C "_law_spoilt_row") [] (xACons (xVar 1) (xACons (xVar 2) (xACons (xIx (xVar 4) (xOwn (C "_law_take") [] (xACons (xVar 1) (xACons (xVar 3) xANil)))) xANil)))) [s0, .ow .own (HD cells pos big tot), .ow .own (.lst (IL ss)), .fz (.int (prod ss 1)), .ow .own (.lst (fills ss)), s5, s6, s7, s8, s9, s10, s11, s12, s13, s14] = .ok (.va d f) [s0, .ow .own (HD cells p2 b2 t2), .ow .own (.lst (IL ss)), .fz (.int (prod ss 1)), .ow .own (.lst (fills ss)), s5, s6, s7, s8, s9, s10, s11, s12, s13, s14] := x_own2v (i := 1) (j := 2) (by decide) rfl rfl x2 rfl rfl e2 rfl
    unfold sSet
    rw [x3]
    rfl
  rw [em]
  cases f with
  | false =>
    have x' := x.trans (putI_ok (ρ := [s0, .ow .own (HD cells p2 b2 t2), .ow .own (.lst (IL ss)), .fz (.int (prod ss 1)), .ow .own (.lst (fills ss)), s5, s6, s7, s8, s9, s10, s11, s12, s13, s14]) m11)
    rw [seq_next x']
    have e3 := sp_fz k ok.toSOk hd (h := HD cells p2 b2 t2) (s0 := s0) (s5 := s5) (s6 := s6) (s7 := s7) (s8 := s8) (s9 := s9) (s10 := s10) (s12 := s12) (s13 := s13) (s14 := s14) m5 m12
    exact ⟨p2, b2, t2, _, _, _, e3, h2, rfl, rfl, rfl⟩
  | true =>
    have x' : sSet 11 (xOwn ((Mk (k + 5)).call "_law_spoilt_row") [] (xACons (xVar 1) (xACons (xVar 2) (xACons (xIx (xVar 4) (xOwn ((Mk (k + 5)).call "_law_take") [] (xACons (xVar 1) (xACons (xVar 3) xANil)))) xANil)))) [s0, .ow .own (HD cells pos big tot), .ow .own (.lst (IL ss)), .fz (.int (prod ss 1)), .ow .own (.lst (fills ss)), s5, s6, s7, s8, s9, s10, s11, s12, s13, s14] = .next [s0, .ow .own (HD cells p2 b2 t2), .ow .own (.lst (IL ss)), .fz (.int (prod ss 1)), .ow .own (.lst (fills ss)), s5, s6, s7, s8, s9, s10, .ow .own d, s12, s13, s14] := x.trans (putI_own (ρ := [s0, .ow .own (HD cells p2 b2 t2), .ow .own (.lst (IL ss)), .fz (.int (prod ss 1)), .ow .own (.lst (fills ss)), s5, s6, s7, s8, s9, s10, s11, s12, s13, s14]) m11)
    rw [seq_next x']
    obtain ⟨w, e3, mw⟩ := sp_ow k ok.toSOk hd (h := HD cells p2 b2 t2) (s0 := s0) (s5 := s5) (s6 := s6) (s7 := s7) (s8 := s8) (s9 := s9) (s10 := s10) (s12 := s12) (s13 := s13) (s14 := s14) m5 m12
    exact ⟨p2, b2, t2, _, _, _, e3, h2, rfl, mw, rfl⟩
theorem sp_all (k : Nat) {ss : List Int} (ok : SOk2 ss) {cells : List Int} {pos big tot : Int} (h : HOk cells pos big tot) {s0 s5 s6 s7 s8 s9 s10 s11 s12 s13 s14 : Sl} (m5 : Ms s5) (m6 : Ms s6) (m11 : Ms s11) (m12 : Ms s12) :
    ∃ (p b t : Int) (s5' s6' s11' s12' : Sl), sFor (VE.iRng1 (xC (.int (4)))) (agI 6) (spB (Mk (k + 5)).call) [s0, .ow .own (HD cells pos big tot), .ow .own (.lst (IL ss)), .fz (.int (prod ss 1)), .ow .own (.lst (fills ss)), s5, s6, s7, s8, s9, s10, s11, s12, s13, s14] = .next [s0, .ow .own (HD cells p b t), .ow .own (.lst (IL ss)), .fz (.int (prod ss 1)), .ow .own (.lst (fills ss)), s5', s6', s7, s8, s9, s10, s11', s12', s13, s14] ∧ HOk cells p b t := by
  let I : Ro → Prop := fun ρ => ∃ p b t s5 s6 s11 s12, ρ = [s0, .ow .own (HD cells p b t), .ow .own (.lst (IL ss)), .fz (.int (prod ss 1)), .ow .own (.lst (fills ss)), s5, s6, s7, s8, s9, s10, s11, s12, s13, s14] ∧ HOk cells p b t ∧ Ms s5 ∧ Ms s6 ∧ Ms s11 ∧ Ms s12
  obtain ⟨ρ2, e, p, b, t, s5', s6', s11', s12', er, hh, n5, n6, n11, n12⟩ := loop_inv (asg := agI 6) (body := spB (Mk (k + 5)).call) I (ds := rngD 0 (4 : Int).toNat) (ρ := [s0, .ow .own (HD cells pos big tot), .ow .own (.lst (IL ss)), .fz (.int (prod ss 1)), .ow .own (.lst (fills ss)), s5, s6, s7, s8, s9, s10, s11, s12, s13, s14]) ⟨pos, big, tot, s5, s6, s11, s12, rfl, h, m5, m6, m11, m12⟩ (by
    rintro d hd ρ ⟨p, b, t, u5, u6, u11, u12, rfl, hh, n5, n6, n11, n12⟩
    obtain ⟨p1, b1, t1, v5, v11, v12, e1, h1, o5, o11, o12⟩ := sp_body k ok hh (s0 := s0) (s5 := u5) (s6 := .fz d) (s7 := s7) (s8 := s8) (s9 := s9) (s10 := s10) (s11 := u11) (s12 := u12) (s13 := s13) (s14 := s14) n5 n11 n12
    exact ⟨_, _, agI_ok rfl n6, e1, p1, b1, t1, v5, .fz d, v11, v12, rfl, h1, o5, rfl, o11, o12⟩)
  exact ⟨p, b, t, s5', s6', s11', s12', by rw [← er]; exact for_rng (by decide) (by decide) e, hh⟩
end LawP
end

section
set_option Elab.async false
set_option linter.all false
set_option maxRecDepth 100000
set_option maxHeartbeats 4000000
namespace LawP
open PySem PySem.Spec L2 VE

def wireB (C : Str → List Sl → Cr) : XS := (sCons (sIf (VE.tNot (tE (xOwn (C "_law_truth") [] (xACons (xOwn (C "is_wire") [] (xACons (xVar 14) xANil)) (xACons (xOwn (C "_law_is_wire") [] (xACons (xVar 14) xANil)) xANil))))) (sCons (sRet (xC (.bl false))) sNil) sNil) sNil)
theorem truth_all (k : Nat) (v : Bool) : (Mk (k + 1)).call "_law_truth" [.fz (.bl v), .fz (.bl v)] = .ret (.bl true) false [.fz (.bl v), .fz (.bl v)] := by
  have := c_truth k (a := v) (b := v)
  rw [decide_eq_true rfl] at this
  exact this
theorem wire_body (k : Nat) {d h : D} (hd : wtB d = true) {ss : List Int} {s0 s5 s6 s7 s8 s9 s10 s11 s12 s13 : Sl} : wireB (Mk (k + 2)).call [s0, .ow .own (h), .ow .own (.lst (IL ss)), .fz (.int (prod ss 1)), .ow .own (.lst (fills ss)), s5, s6, s7, s8, s9, s10, s11, s12, s13, .fz d] = .next [s0, .ow .own (h), .ow .own (.lst (IL ss)), .fz (.int (prod ss 1)), .ow .own (.lst (fills ss)), s5, s6, s7, s8, s9, s10, s11, s12, s13, .fz d] := by
  have e1 := c_iswire k hd
  have e2 := c_liswire k hd
  have e3 := truth_all (k + 1) (wr d)
  generalize (Mk (k + 2)).call = C at e1 e2 e3 ⊢
  have x1 : (xOwn (C "is_wire") [] (xACons (xVar 14) xANil)) [s0, .ow .own (h), .ow .own (.lst (IL ss)), .fz (.int (prod ss 1)), .ow .own (.lst (fills ss)), s5, s6, s7, s8, s9, s10, s11, s12, s13, .fz d] = .ok (.va (.bl (wr d)) false) [s0, .ow .own (h), .ow .own (.lst (IL ss)), .fz (.int (prod ss 1)), .ow .own (.lst (fills ss)), s5, s6, s7, s8, s9, s10, s11, s12, s13, .fz d] := x_v1 (x := d) (b := false) rfl e1
  have x2 : (xOwn (C "_law_is_wire") [] (xACons (xVar 14) xANil)) [s0, .ow .own (h), .ow .own (.lst (IL ss)), .fz (.int (prod ss 1)), .ow .own (.lst (fills ss)), s5, s6, s7, s8, s9, s10, s11, s12, s13, .fz d] = .ok (.va (.bl (wr d)) false) [s0, .ow .own (h), .ow .own (.lst (IL ss)), .fz (.int (prod ss 1)), .ow .own (.lst (fills ss)), s5, s6, s7, s8, s9, s10, s11, s12, s13, .fz d] := x_v1 (x := d) (b := false) rfl e2
  have x3 : (xOwn (C "_law_truth") [] (xACons (xOwn (C "is_wire") [] (xACons (xVar 14) xANil)) (xACons (xOwn (C "_law_is_wire") [] (xACons (xVar 14) xANil)) xANil))) [s0, .ow .own (h), .ow .own (.lst (IL ss)), .fz (.int (prod ss 1)), .ow .own (.lst (fills ss)), s5, s6, s7, s8, s9, s10, s11, s12, s13, .fz d] = .ok (.va (.bl true) false) [s0, .ow .own (h), .ow .own (.lst (IL ss)), .fz (.int (prod ss 1)), .ow .own (.lst (fills ss)), s5, s6, s7, s8, s9, s10, s11, s12, s13, .fz d] := x_v2 x1 x2 e3
  have z : (VE.tNot (tE (xOwn (C "_law_truth") [] (xACons (xOwn (C "is_wire") [] (xACons (xVar 14) xANil)) (xACons (xOwn (C "_law_is_wire") [] (xACons (xVar 14) xANil)) xANil))))) [s0, .ow .own (h), .ow .own (.lst (IL ss)), .fz (.int (prod ss 1)), .ow .own (.lst (fills ss)), s5, s6, s7, s8, s9, s10, s11, s12, s13, .fz d] = .ok false [s0, .ow .own (h), .ow .own (.lst (IL ss)), .fz (.int (prod ss 1)), .ow .own (.lst (fills ss)), s5, s6, s7, s8, s9, s10, s11, s12, s13, .fz d] := tNot_ok (tE_ok x3)
  exact seq_last (sIf_skip z)
def wiresX (C : Str → List Sl → Cr) : XE := (xLst (xCons (xTup (xCons (xVar 9) (xCons (xVar 13) xNil))) (xCons (xLst (xCons (xVar 9) (xCons (xVar 13) xNil))) (xCons (xTup (xCons (xVar 9) (xCons (xC (.bl true)) xNil))) (xCons (xTup (xCons (xVar 9) (xCons (xVar 13) (xCons (xVar 13) xNil)))) (xCons (xTup (xCons (xVar 13) (xCons (xVar 9) xNil))) (xCons (xTup (xCons (xVar 9) xNil)) (xCons (xOwn (C "_law_no_wire") [] (xACons (xVar 1) xANil)) xNil))))))))
def wiresD (d y w : D) : List D := [.tup [d, y], .lst [d, y], .tup [d, .bl true], .tup [d, y, y], .tup [y, d], .tup [d], w]
theorem wires_all (k : Nat) {ss : List Int} {d : D} {y : Int} (hd : thB d = true) {cells : List Int} {pos big tot : Int} (h : HOk cells pos big tot) {s0 s5 s6 s7 s8 s10 s11 s12 s14 : Sl} (m14 : Ms s14) :
    ∃ (p b t : Int) (s14' : Sl), sFor (VE.iGen (wiresX (Mk (k + 3)).call)) (agI 14) (wireB (Mk (k + 3)).call) [s0, .ow .own (HD cells pos big tot), .ow .own (.lst (IL ss)), .fz (.int (prod ss 1)), .ow .own (.lst (fills ss)), s5, s6, s7, s8, .fz d, s10, s11, s12, .fz (.int y), s14] = .next [s0, .ow .own (HD cells p b t), .ow .own (.lst (IL ss)), .fz (.int (prod ss 1)), .ow .own (.lst (fills ss)), s5, s6, s7, s8, .fz d, s10, s11, s12, .fz (.int y), s14'] ∧ HOk cells p b t ∧ Ms s14' := by
  obtain ⟨w, p1, b1, t1, e1, h1, hw⟩ := c_nowire k h
  let I : Ro → Prop := fun ρ => ∃ s14, ρ = [s0, .ow .own (HD cells p1 b1 t1), .ow .own (.lst (IL ss)), .fz (.int (prod ss 1)), .ow .own (.lst (fills ss)), s5, s6, s7, s8, .fz d, s10, s11, s12, .fz (.int y), s14] ∧ Ms s14
  have hall : ∀ u ∈ wiresD d (.int y) w, wtB u = true := by
    intro u hu
    have hy : thB (.int y) = true := rfl
    have hb : thB (.bl true) = true := rfl
    simp only [wiresD, List.mem_cons, List.not_mem_nil, or_false] at hu
    rcases hu with rfl | rfl | rfl | rfl | rfl | rfl | rfl
    · show ([d, .int y] : List D).all thB = true
      simp only [List.all_cons, List.all_nil, hd, hy, Bool.and_self]
    · show ([d, .int y] : List D).all thB = true
      simp only [List.all_cons, List.all_nil, hd, hy, Bool.and_self]
    · show ([d, .bl true] : List D).all thB = true
      simp only [List.all_cons, List.all_nil, hd, hb, Bool.and_self]
    · show ([d, .int y, .int y] : List D).all thB = true
      simp only [List.all_cons, List.all_nil, hd, hy, Bool.and_self]
    · show ([.int y, d] : List D).all thB = true
      simp only [List.all_cons, List.all_nil, hd, hy, Bool.and_self]
    · show ([d] : List D).all thB = true
      simp only [List.all_cons, List.all_nil, hd, Bool.and_self]
    · exact hw
  obtain ⟨ρ2, e, s14', er, n14⟩ := loop_inv (asg := agI 14) (body := wireB (Mk (k + 3)).call) I (ds := wiresD d (.int y) w) (ρ := [s0, .ow .own (HD cells p1 b1 t1), .ow .own (.lst (IL ss)), .fz (.int (prod ss 1)), .ow .own (.lst (fills ss)), s5, s6, s7, s8, .fz d, s10, s11, s12, .fz (.int y), s14]) ⟨s14, rfl, m14⟩ (by
    rintro u hu ρ ⟨u14, rfl, n14⟩
    exact ⟨_, _, agI_ok rfl n14, wire_body (k + 1) (hall u hu), .fz u, rfl, rfl⟩)
  refine ⟨p1, b1, t1, s14', ?_, h1, n14⟩
  rw [← er]
  generalize (Mk (k + 3)).call = C at e1 e ⊢
  refine for_gen (ds := wiresD d (.int y) w) (ρ1 := [s0, .ow .own (HD cells p1 b1 t1), .ow .own (.lst (IL ss)), .fz (.int (prod ss 1)), .ow .own (.lst (fills ss)), s5, s6, s7, s8, .fz d, s10, s11, s12, .fz (.int y), s14]) (fl := true) ?_ e
  have y1 : (xOwn (C "_law_no_wire") [] (xACons (xVar 1) xANil)) [s0, .ow .own (HD cells pos big tot), .ow .own (.lst (IL ss)), .fz (.int (prod ss 1)), .ow .own (.lst (fills ss)), s5, s6, s7, s8, .fz d, s10, s11, s12, .fz (.int y), s14] = .ok (.va w false) [s0, .ow .own (HD cells p1 b1 t1), .ow .own (.lst (IL ss)), .fz (.int (prod ss 1)), .ow .own (.lst (fills ss)), s5, s6, s7, s8, .fz d, s10, s11, s12, .fz (.int y), s14] := x_own0 (i := 1) rfl e1 rfl
  unfold wiresX
  refine xLst_ok (xCons_v rfl (xCons_v rfl (xCons_v rfl (xCons_v rfl (xCons_v rfl (xCons_v rfl (xCons_v y1 rfl))))))) ?_
  show 7 ≤ 1000
  decide
def nameB (C : Str → List Sl → Cr) : XS := (sCons (sIf (VE.tNot (tE (xOwn (C "_law_truth") [] (xACons (xOwn (C "is_name") [] (xACons (xVar 9) xANil)) (xACons (xOwn (C "_law_is_name") [] (xACons (xVar 9) xANil)) xANil))))) (sCons (sRet (xC (.bl false))) sNil) sNil) (sCons (sSet 13 (xOwn (C "_law_take") [] (xACons (xVar 1) (xACons (xC (.int (7))) xANil)))) (sCons (sFor (VE.iGen (wiresX C)) (agI 14) (wireB C)) sNil)))
theorem name_body (k : Nat) {d : D} (hd : thB d = true) {ss : List Int} {cells : List Int} {pos big tot : Int} (h : HOk cells pos big tot) {s0 s5 s6 s7 s8 s10 s11 s12 s13 s14 : Sl} (m13 : Ms s13) (m14 : Ms s14) :
    ∃ (p b t : Int) (s13' s14' : Sl), nameB (Mk (k + 3)).call [s0, .ow .own (HD cells pos big tot), .ow .own (.lst (IL ss)), .fz (.int (prod ss 1)), .ow .own (.lst (fills ss)), s5, s6, s7, s8, .fz d, s10, s11, s12, s13, s14] = .next [s0, .ow .own (HD cells p b t), .ow .own (.lst (IL ss)), .fz (.int (prod ss 1)), .ow .own (.lst (fills ss)), s5, s6, s7, s8, .fz d, s10, s11, s12, s13', s14'] ∧ HOk cells p b t ∧ Ms s13' ∧ Ms s14' := by
  have e1 := c_isname (k + 2) hd
  have e2 := c_lisname (k + 2) hd
  have e3 := truth_all (k + 2) (nm d)
  obtain ⟨y, p1, b1, t1, e4, y0, y1, h1⟩ := c_take (k + 1) h (m := 7) (by decide) (by decide)
  obtain ⟨p2, b2, t2, s14', e5, h2, n14⟩ := wires_all k (ss := ss) (d := d) (y := y) hd h1 (s0 := s0) (s5 := s5) (s6 := s6) (s7 := s7) (s8 := s8) (s10 := s10) (s11 := s11) (s12 := s12) (s14 := s14) m14
  refine ⟨p2, b2, t2, .fz (.int y), s14', ?_, h2, rfl, n14⟩
  generalize (Mk (k + 3)).call = C at e1 e2 e3 e4 e5 ⊢
  unfold nameB
  have x1 : (xOwn (C "is_name") [] (xACons (xVar 9) xANil)) [s0, .ow .own (HD cells pos big tot), .ow .own (.lst (IL ss)), .fz (.int (prod ss 1)), .ow .own (.lst (fills ss)), s5, s6, s7, s8, .fz d, s10, s11, s12, s13, s14] = .ok (.va (.bl (nm d)) false) [s0, .ow .own (HD cells pos big tot), .ow .own (.lst (IL ss)), .fz (.int (prod ss 1)), .ow .own (.lst (fills ss)), s5, s6, s7, s8, .fz d, s10, s11, s12, s13, s14] := x_v1 (x := d) (b := false) rfl e1
  have x2 : (xOwn (C "_law_is_name") [] (xACons (xVar 9) xANil)) [s0, .ow .own (HD cells pos big tot), .ow .own (.lst (IL ss)), .fz (.int (prod ss 1)), .ow .own (.lst (fills ss)), s5, s6, s7, s8, .fz d, s10, s11, s12, s13, s14] = .ok (.va (.bl (nm d)) false) [s0, .ow .own (HD cells pos big tot), .ow .own (.lst (IL ss)), .fz (.int (prod ss 1)), .ow .own (.lst (fills ss)), s5, s6, s7, s8, .fz d, s10, s11, s12, s13, s14] := x_v1 (x := d) (b := false) rfl e2
  have x3 : (xOwn (C "_law_truth") [] (xACons (xOwn (C "is_name") [] (xACons (xVar 9) xANil)) (xACons (xOwn (C "_law_is_name") [] (xACons (xVar 9) xANil)) xANil))) [s0, .ow .own (HD cells pos big tot), .ow .own (.lst (IL ss)), .fz (.int (prod ss 1)), .ow .own (.lst (fills ss)), s5, s6, s7, s8, .fz d, s10, s11, s12, s13, s14] = .ok (.va (.bl true) false) [s0, .ow .own (HD cells pos big tot), .ow .own (.lst (IL ss)), .fz (.int (prod ss 1)), .ow .own (.lst (fills ss)), s5, s6, s7, s8, .fz d, s10, s11, s12, s13, s14] := x_v2 x1 x2 e3
  have z : (VE.tNot (tE (xOwn (C "_law_truth") [] (xACons (xOwn (C "is_name") [] (xACons (xVar 9) xANil)) (xACons (xOwn (C "_law_is_name") [] (xACons (xVar 9) xANil)) xANil))))) [s0, .ow .own (HD cells pos big tot), .ow .own (.lst (IL ss)), .fz (.int (prod ss 1)), .ow .own (.lst (fills ss)), s5, s6, s7, s8, .fz d, s10, s11, s12, s13, s14] = .ok false [s0, .ow .own (HD cells pos big tot), .ow .own (.lst (IL ss)), .fz (.int (prod ss 1)), .ow .own (.lst (fills ss)), s5, s6, s7, s8, .fz d, s10, s11, s12, s13, s14] := tNot_ok (tE_ok x3)
  rw [seq_next (sIf_skip z)]
  have x4 : (xOwn (C "_law_take") [] (xACons (xVar 1) (xACons (xC (.int (7))) xANil))) [s0, .ow .own (HD cells pos big tot), .ow .own (.lst (IL ss)), .fz (.int (prod ss 1)), .ow .own (.lst (fills ss)), s5, s6, s7, s8, .fz d, s10, s11, s12, s13, s14] = .ok (.va (.int y) false) [s0, .ow .own (HD cells p1 b1 t1), .ow .own (.lst (IL ss)), .fz (.int (prod ss 1)), .ow .own (.lst (fills ss)), s5, s6, s7, s8, .fz d, s10, s11, s12, s13, s14] := x_own1p (i := 1) (x := .int 7) (b := false) rfl rfl e4 rfl
  rw [seq_next (sSet_ok (ρ2 := [s0, .ow .own (HD cells p1 b1 t1), .ow .own (.lst (IL ss)), .fz (.int (prod ss 1)), .ow .own (.lst (fills ss)), s5, s6, s7, s8, .fz d, s10, s11, s12, .fz (.int y), s14]) x4 (putI_ok (ρ := [s0, .ow .own (HD cells p1 b1 t1), .ow .own (.lst (IL ss)), .fz (.int (prod ss 1)), .ow .own (.lst (fills ss)), s5, s6, s7, s8, .fz d, s10, s11, s12, s13, s14]) m13))]
  exact seq_last e5
end LawP
end

section
set_option Elab.async false
set_option linter.all false
set_option maxRecDepth 100000
set_option maxHeartbeats 4000000
namespace LawP
open PySem PySem.Spec L2 VE

theorem rep_flat (cs : List Nat) : ∀ k : Nat, (List.replicate k cs).flatten.length = k * cs.length
  | 0 => by simp
  | k + 1 => by
    rw [List.replicate_succ, List.flatten_cons, List.length_append, rep_flat cs k, Nat.succ_mul, Nat.add_comm]
theorem rep_len (x : Str) (k : Nat) : (repS x k).length = k * x.length := by
  show (List.replicate k x.cps.toList).flatten.toArray.size = _
  rw [List.size_toArray, rep_flat]
  simp [Str.length]
theorem cut_len (z : Str) (lo hi : Option Int) : (cutS z lo hi).length ≤ z.length := by
  show (List.toArray _).size ≤ _
  rw [List.size_toArray, List.length_take, List.length_drop]
  have : z.cps.toList.length = z.length := by simp [Str.length]
  omega
theorem mul_str {x : Str} {k : Int} (h0 : 0 ≤ k) (h1 : k ≤ 9) (hx : x.length = 1) : binD .Mult (.str x) (.int k) = some (.str (repS x k.toNat), false) := by
  show (if szOk (x.length * k.toNat) && decide (-(2 ^ 63) ≤ k) && decide (k < 2 ^ 63) then some (D.str (repS x k.toNat), false) else none) = _
  have a : szOk (x.length * k.toNat) = true := decide_eq_true (by rw [sizeLine_eq, hx]; omega)
  have b : -(2 ^ 63 : Int) ≤ k := by omega
  have c : k < (2 ^ 63 : Int) := by omega
  rw [if_pos (by rw [a, decide_eq_true b, decide_eq_true c]; rfl)]
def thD (z : Str) (d : D) : List D := [.str z, .str (z ++ PySem.Str.ofString "a"), .str (z ++ repS (PySem.Str.ofString "z") (8 - (z.length : Int)).toNat), .str (z ++ repS (PySem.Str.ofString "z") (9 - (z.length : Int)).toNat), .str (z ++ PySem.Str.ofString "1"), .str (cutS z none (some (-1)) ++ PySem.Str.ofString "A"), d, .lst [.str z]]
theorem l1a : (PySem.Str.ofString "a").length = 1 := by decide +kernel
theorem l1z : (PySem.Str.ofString "z").length = 1 := by decide +kernel
theorem l1o : (PySem.Str.ofString "1").length = 1 := by decide +kernel
theorem l1A : (PySem.Str.ofString "A").length = 1 := by decide +kernel
theorem thD_th {z : Str} {d : D} (hz : Nm z) (hd : thB d = true) : ∀ x ∈ thD z d, thB x = true := by
  have h1 := hz.1
  have h2 := hz.2.1
  have hs : ∀ y : Str, y.length ≤ 100 → thB (.str y) = true := fun y hy => decide_eq_true (by omega)
  intro x hx
  simp only [thD, List.mem_cons, List.not_mem_nil, or_false] at hx
  rcases hx with rfl | rfl | rfl | rfl | rfl | rfl | rfl | rfl
  · exact hs _ (by omega)
  · exact hs _ (by rw [len_app, l1a]; omega)
  · exact hs _ (by rw [len_app, rep_len, l1z]; omega)
  · exact hs _ (by rw [len_app, rep_len, l1z]; omega)
  · exact hs _ (by rw [len_app, l1o]; omega)
  · exact hs _ (by
      have := cut_len z none (some (-1))
      rw [len_app, l1A]
      omega)
  · exact hd
  · rfl
def thingsX (C : Str → List Sl → Cr) : XE := (xLst (xCons (xVar 8) (xCons (xBin .Add (xVar 8) (xC (.str (PySem.Str.ofString "a")))) (xCons (xBin .Add (xVar 8) (xBin .Mult (xC (.str (PySem.Str.ofString "z"))) (xBin .Sub (xC (.int (8))) (xBi "len" (xACons (xVar 8) xANil))))) (xCons (xBin .Add (xVar 8) (xBin .Mult (xC (.str (PySem.Str.ofString "z"))) (xBin .Sub (xC (.int (9))) (xBi "len" (xACons (xVar 8) xANil))))) (xCons (xBin .Add (xVar 8) (xC (.str (PySem.Str.ofString "1")))) (xCons (xBin .Add (xCut (xVar 8) xPart0 (xPart (xNeg (xC (.int (1)))))) (xC (.str (PySem.Str.ofString "A")))) (xCons (xOwn (C "_law_no_name") [] (xACons (xVar 1) xANil)) (xCons (xLst (xCons (xVar 8) xNil)) xNil)))))))))
theorem x_len {z : Str} (h : z.length ≤ 1000) {ρ : Ro} (hr : ρ[8]? = some (.fz (.str z))) : (xBi "len" (xACons (xVar 8) xANil)) ρ = .ok (.va (.int z.length) false) ρ := by
  have hl := len_str h
  have v : xVar 8 ρ = .ok (.va (.str z) false) ρ := by
    unfold xVar
    rw [hr]
  have a := xACons_ok (r := xANil) v rfl
  unfold xBi
  rw [a]
  show Rs.of ((biD (Str.ofString "len") [.str z]).map _) _ = _
  rw [hl]
  rfl
theorem names_all (k : Nat) {ss : List Int} {z : Str} (hz : Nm z) {cells : List Int} {pos big tot : Int} (h : HOk cells pos big tot) {s0 s5 s6 s7 s9 s10 s11 s12 s13 s14 : Sl} (m9 : Ms s9) (m13 : Ms s13) (m14 : Ms s14) :
    ∃ (p b t : Int) (s9' s13' s14' : Sl), sFor (VE.iGen (thingsX (Mk (k + 3)).call)) (agI 9) (nameB (Mk (k + 3)).call) [s0, .ow .own (HD cells pos big tot), .ow .own (.lst (IL ss)), .fz (.int (prod ss 1)), .ow .own (.lst (fills ss)), s5, s6, s7, .fz (.str z), s9, s10, s11, s12, s13, s14] = .next [s0, .ow .own (HD cells p b t), .ow .own (.lst (IL ss)), .fz (.int (prod ss 1)), .ow .own (.lst (fills ss)), s5, s6, s7, .fz (.str z), s9', s10, s11, s12, s13', s14'] := by
  obtain ⟨d, p1, b1, t1, e1, h1, hd⟩ := c_noname k h
  have z1 := hz.1
  have z2 := hz.2.1
  let I : Ro → Prop := fun ρ => ∃ p b t s9 s13 s14, ρ = [s0, .ow .own (HD cells p b t), .ow .own (.lst (IL ss)), .fz (.int (prod ss 1)), .ow .own (.lst (fills ss)), s5, s6, s7, .fz (.str z), s9, s10, s11, s12, s13, s14] ∧ HOk cells p b t ∧ Ms s9 ∧ Ms s13 ∧ Ms s14
  obtain ⟨ρ2, e, p, b, t, s9', s13', s14', er, _, _, _, _⟩ := loop_inv (asg := agI 9) (body := nameB (Mk (k + 3)).call) I (ds := thD z d) (ρ := [s0, .ow .own (HD cells p1 b1 t1), .ow .own (.lst (IL ss)), .fz (.int (prod ss 1)), .ow .own (.lst (fills ss)), s5, s6, s7, .fz (.str z), s9, s10, s11, s12, s13, s14]) ⟨p1, b1, t1, s9, s13, s14, rfl, h1, m9, m13, m14⟩ (by
    rintro x hx ρ ⟨p, b, t, u9, u13, u14, rfl, hh, n9, n13, n14⟩
    obtain ⟨p2, b2, t2, v13, v14, e2, h2, o13, o14⟩ := name_body k (ss := ss) (thD_th hz hd x hx) hh (s0 := s0) (s5 := s5) (s6 := s6) (s7 := s7) (s8 := .fz (.str z)) (s10 := s10) (s11 := s11) (s12 := s12) (s13 := u13) (s14 := u14) n13 n14
    exact ⟨_, _, agI_ok rfl n9, e2, p2, b2, t2, .fz x, v13, v14, rfl, h2, rfl, o13, o14⟩)
  refine ⟨p, b, t, s9', s13', s14', ?_⟩
  rw [← er]
  generalize (Mk (k + 3)).call = C at e1 e ⊢
  refine for_gen (ds := thD z d) (ρ1 := [s0, .ow .own (HD cells p1 b1 t1), .ow .own (.lst (IL ss)), .fz (.int (prod ss 1)), .ow .own (.lst (fills ss)), s5, s6, s7, .fz (.str z), s9, s10, s11, s12, s13, s14]) (fl := true) ?_ e
  have v : xVar 8 [s0, .ow .own (HD cells pos big tot), .ow .own (.lst (IL ss)), .fz (.int (prod ss 1)), .ow .own (.lst (fills ss)), s5, s6, s7, .fz (.str z), s9, s10, s11, s12, s13, s14] = .ok (.va (.str z) false) [s0, .ow .own (HD cells pos big tot), .ow .own (.lst (IL ss)), .fz (.int (prod ss 1)), .ow .own (.lst (fills ss)), s5, s6, s7, .fz (.str z), s9, s10, s11, s12, s13, s14] := rfl
  have x1 : (xBin .Add (xVar 8) (xC (.str (PySem.Str.ofString "a")))) [s0, .ow .own (HD cells pos big tot), .ow .own (.lst (IL ss)), .fz (.int (prod ss 1)), .ow .own (.lst (fills ss)), s5, s6, s7, .fz (.str z), s9, s10, s11, s12, s13, s14] = .ok (.va (.str (z ++ PySem.Str.ofString "a")) false) [s0, .ow .own (HD cells pos big tot), .ow .own (.lst (IL ss)), .fz (.int (prod ss 1)), .ow .own (.lst (fills ss)), s5, s6, s7, .fz (.str z), s9, s10, s11, s12, s13, s14] := xBin_ok (bx := .va (.str z) false) (bv := .va (.str (PySem.Str.ofString "a")) false) v rfl rfl rfl (add_str (by rw [l1a]; omega))
  have xl : (xBi "len" (xACons (xVar 8) xANil)) [s0, .ow .own (HD cells pos big tot), .ow .own (.lst (IL ss)), .fz (.int (prod ss 1)), .ow .own (.lst (fills ss)), s5, s6, s7, .fz (.str z), s9, s10, s11, s12, s13, s14] = .ok (.va (.int z.length) false) [s0, .ow .own (HD cells pos big tot), .ow .own (.lst (IL ss)), .fz (.int (prod ss 1)), .ow .own (.lst (fills ss)), s5, s6, s7, .fz (.str z), s9, s10, s11, s12, s13, s14] := x_len (by omega) rfl
  have mul : ∀ m : Int, 8 ≤ m → m ≤ 9 → (xBin .Add (xVar 8) (xBin .Mult (xC (.str (PySem.Str.ofString "z"))) (xBin .Sub (xC (.int m)) (xBi "len" (xACons (xVar 8) xANil))))) [s0, .ow .own (HD cells pos big tot), .ow .own (.lst (IL ss)), .fz (.int (prod ss 1)), .ow .own (.lst (fills ss)), s5, s6, s7, .fz (.str z), s9, s10, s11, s12, s13, s14] = .ok (.va (.str (z ++ repS (PySem.Str.ofString "z") (m - (z.length : Int)).toNat)) false) [s0, .ow .own (HD cells pos big tot), .ow .own (.lst (IL ss)), .fz (.int (prod ss 1)), .ow .own (.lst (fills ss)), s5, s6, s7, .fz (.str z), s9, s10, s11, s12, s13, s14] := fun m m0 m1 => by
    have a1 : xBin .Sub (xC (.int m)) (xBi "len" (xACons (xVar 8) xANil)) [s0, .ow .own (HD cells pos big tot), .ow .own (.lst (IL ss)), .fz (.int (prod ss 1)), .ow .own (.lst (fills ss)), s5, s6, s7, .fz (.str z), s9, s10, s11, s12, s13, s14] = .ok (.va (.int (m - z.length)) false) [s0, .ow .own (HD cells pos big tot), .ow .own (.lst (IL ss)), .fz (.int (prod ss 1)), .ow .own (.lst (fills ss)), s5, s6, s7, .fz (.str z), s9, s10, s11, s12, s13, s14] := xBin_ok (bx := .va (.int m) false) (ρ1 := [s0, .ow .own (HD cells pos big tot), .ow .own (.lst (IL ss)), .fz (.int (prod ss 1)), .ow .own (.lst (fills ss)), s5, s6, s7, .fz (.str z), s9, s10, s11, s12, s13, s14]) (v := (.int (m - z.length), false)) rfl xl rfl rfl rfl
    have a2 : xBin .Mult (xC (.str (PySem.Str.ofString "z"))) (xBin .Sub (xC (.int m)) (xBi "len" (xACons (xVar 8) xANil))) [s0, .ow .own (HD cells pos big tot), .ow .own (.lst (IL ss)), .fz (.int (prod ss 1)), .ow .own (.lst (fills ss)), s5, s6, s7, .fz (.str z), s9, s10, s11, s12, s13, s14] = .ok (.va (.str (repS (PySem.Str.ofString "z") (m - (z.length : Int)).toNat)) false) [s0, .ow .own (HD cells pos big tot), .ow .own (.lst (IL ss)), .fz (.int (prod ss 1)), .ow .own (.lst (fills ss)), s5, s6, s7, .fz (.str z), s9, s10, s11, s12, s13, s14] := xBin_ok (bx := .va (.str (PySem.Str.ofString "z")) false) (ρ1 := [s0, .ow .own (HD cells pos big tot), .ow .own (.lst (IL ss)), .fz (.int (prod ss 1)), .ow .own (.lst (fills ss)), s5, s6, s7, .fz (.str z), s9, s10, s11, s12, s13, s14]) rfl a1 rfl rfl (mul_str (by omega) (by omega) l1z)
    exact xBin_ok (bx := .va (.str z) false) v a2 rfl rfl (add_str (by rw [rep_len, l1z]; omega))
  have x2 := mul 8 (by decide) (by decide)
  have x3 := mul 9 (by decide) (by decide)
  have x4 : (xBin .Add (xVar 8) (xC (.str (PySem.Str.ofString "1")))) [s0, .ow .own (HD cells pos big tot), .ow .own (.lst (IL ss)), .fz (.int (prod ss 1)), .ow .own (.lst (fills ss)), s5, s6, s7, .fz (.str z), s9, s10, s11, s12, s13, s14] = .ok (.va (.str (z ++ PySem.Str.ofString "1")) false) [s0, .ow .own (HD cells pos big tot), .ow .own (.lst (IL ss)), .fz (.int (prod ss 1)), .ow .own (.lst (fills ss)), s5, s6, s7, .fz (.str z), s9, s10, s11, s12, s13, s14] := xBin_ok (bx := .va (.str z) false) (bv := .va (.str (PySem.Str.ofString "1")) false) v rfl rfl rfl (add_str (by rw [l1o]; omega))
  have xc : xCut (xVar 8) xPart0 (xPart (xNeg (xC (.int (1))))) [s0, .ow .own (HD cells pos big tot), .ow .own (.lst (IL ss)), .fz (.int (prod ss 1)), .ow .own (.lst (fills ss)), s5, s6, s7, .fz (.str z), s9, s10, s11, s12, s13, s14] = .ok (.va (.str (cutS z none (some (-1)))) false) [s0, .ow .own (HD cells pos big tot), .ow .own (.lst (IL ss)), .fz (.int (prod ss 1)), .ow .own (.lst (fills ss)), s5, s6, s7, .fz (.str z), s9, s10, s11, s12, s13, s14] := by
    have g : cutD (.str z) none (some (-1)) = some (.str (cutS z none (some (-1))), false) := if_pos (show szOk z.length = true from decide_eq_true (by rw [sizeLine_eq]; omega))
    show Rs.of ((cutD (.str z) none (some (-1))).map fun u => Bv.va u.1 u.2) [s0, .ow .own (HD cells pos big tot), .ow .own (.lst (IL ss)), .fz (.int (prod ss 1)), .ow .own (.lst (fills ss)), s5, s6, s7, .fz (.str z), s9, s10, s11, s12, s13, s14] = _
    rw [g]
    rfl
  have x5 : (xBin .Add (xCut (xVar 8) xPart0 (xPart (xNeg (xC (.int (1)))))) (xC (.str (PySem.Str.ofString "A")))) [s0, .ow .own (HD cells pos big tot), .ow .own (.lst (IL ss)), .fz (.int (prod ss 1)), .ow .own (.lst (fills ss)), s5, s6, s7, .fz (.str z), s9, s10, s11, s12, s13, s14] = .ok (.va (.str (cutS z none (some (-1)) ++ PySem.Str.ofString "A")) false) [s0, .ow .own (HD cells pos big tot), .ow .own (.lst (IL ss)), .fz (.int (prod ss 1)), .ow .own (.lst (fills ss)), s5, s6, s7, .fz (.str z), s9, s10, s11, s12, s13, s14] := xBin_ok (bv := .va (.str (PySem.Str.ofString "A")) false) (bx := .va (.str (cutS z none (some (-1)))) false) xc rfl rfl rfl (add_str (by
    have := cut_len z none (some (-1))
    rw [l1A]
    omega))
  have x6 : (xOwn (C "_law_no_name") [] (xACons (xVar 1) xANil)) [s0, .ow .own (HD cells pos big tot), .ow .own (.lst (IL ss)), .fz (.int (prod ss 1)), .ow .own (.lst (fills ss)), s5, s6, s7, .fz (.str z), s9, s10, s11, s12, s13, s14] = .ok (.va d false) [s0, .ow .own (HD cells p1 b1 t1), .ow .own (.lst (IL ss)), .fz (.int (prod ss 1)), .ow .own (.lst (fills ss)), s5, s6, s7, .fz (.str z), s9, s10, s11, s12, s13, s14] := x_own0 (i := 1) rfl e1 rfl
  unfold thingsX
  refine xLst_ok (xCons_v v (xCons_v x1 (xCons_v x2 (xCons_v x3 (xCons_v x4 (xCons_v x5 (xCons_v x6 (xCons_v rfl rfl)))))))) ?_
  show 8 ≤ 1000
  decide

theorem xAnd_t {a b : XE} {ρ ρ1 : Ro} {f : Bool} (h : a ρ = .ok (.va (.bl true) f) ρ1) : xAnd a b ρ = b ρ1 := by
  unfold xAnd
  rw [h]
  rfl
theorem law_ret (k : Nat) {z : Str} (hz : Nm z) {ss : List Int} {h : D} {s0 s5 s6 s7 s9 s10 s11 s12 s13 s14 : Sl} : (sRet (xAnd (xCmp .Is (xOwn ((Mk (k + 2)).call "is_wire") [] (xACons (xTup (xCons (xVar 8) (xCons (xC (.int (2))) xNil))) xANil)) (xC (.bl true))) (xAnd (xCmp .Is (xOwn ((Mk (k + 2)).call "is_wire") [] (xACons (xLst (xCons (xVar 8) (xCons (xC (.int (4))) xNil))) xANil)) (xC (.bl true))) (xCmp .Is (xOwn ((Mk (k + 2)).call "is_wire") [] (xACons (xTup (xCons (xVar 8) (xCons (xC (.int (5))) xNil))) xANil)) (xC (.bl false)))))) [s0, .ow .own (h), .ow .own (.lst (IL ss)), .fz (.int (prod ss 1)), .ow .own (.lst (fills ss)), s5, s6, s7, .fz (.str z), s9, s10, s11, s12, s13, s14] = .ret (.va (.bl true) false) [s0, .ow .own (h), .ow .own (.lst (IL ss)), .fz (.int (prod ss 1)), .ow .own (.lst (fills ss)), s5, s6, s7, .fz (.str z), s9, s10, s11, s12, s13, s14] := by
  have hs : thB (.str z) = true := decide_eq_true (by
    have := hz.2.1
    omega)
  have hn := hz.nm
  have w1 : wtB (.tup [.str z, .int 2]) = true := by
    show ([.str z, .int 2] : List D).all thB = true
    simp only [List.all_cons, List.all_nil, hs, Bool.true_and]
    rfl
  have w2 : wtB (.lst [.str z, .int 4]) = true := by
    show ([.str z, .int 4] : List D).all thB = true
    simp only [List.all_cons, List.all_nil, hs, Bool.true_and]
    rfl
  have w3 : wtB (.tup [.str z, .int 5]) = true := by
    show ([.str z, .int 5] : List D).all thB = true
    simp only [List.all_cons, List.all_nil, hs, Bool.true_and]
    rfl
  have e1 := c_iswire k w1
  have e2 := c_iswire k w2
  have e3 := c_iswire k w3
  have v1 : wr (.tup [.str z, .int 2]) = true := by
    show (nm (.str z) && wh (.int 2) 2 4) = true
    rw [hn]
    rfl
  have v2 : wr (.lst [.str z, .int 4]) = true := by
    show (nm (.str z) && wh (.int 4) 2 4) = true
    rw [hn]
    rfl
  have v3 : wr (.tup [.str z, .int 5]) = false := by
    show (nm (.str z) && wh (.int 5) 2 4) = false
    rw [hn]
    rfl
  rw [v1] at e1
  rw [v2] at e2
  rw [v3] at e3
  generalize (Mk (k + 2)).call = C at e1 e2 e3 ⊢
  have x0 : (xOwn (C "is_wire") [] (xACons (xTup (xCons (xVar 8) (xCons (xC (.int (2))) xNil))) xANil)) [s0, .ow .own (h), .ow .own (.lst (IL ss)), .fz (.int (prod ss 1)), .ow .own (.lst (fills ss)), s5, s6, s7, .fz (.str z), s9, s10, s11, s12, s13, s14] = .ok (.va (.bl true) false) [s0, .ow .own (h), .ow .own (.lst (IL ss)), .fz (.int (prod ss 1)), .ow .own (.lst (fills ss)), s5, s6, s7, .fz (.str z), s9, s10, s11, s12, s13, s14] := x_v1 (x := .tup [.str z, .int 2]) (b := false) (ρ1 := [s0, .ow .own (h), .ow .own (.lst (IL ss)), .fz (.int (prod ss 1)), .ow .own (.lst (fills ss)), s5, s6, s7, .fz (.str z), s9, s10, s11, s12, s13, s14]) rfl e1
  have y0 : (xCmp .Is (xOwn (C "is_wire") [] (xACons (xTup (xCons (xVar 8) (xCons (xC (.int (2))) xNil))) xANil)) (xC (.bl true))) [s0, .ow .own (h), .ow .own (.lst (IL ss)), .fz (.int (prod ss 1)), .ow .own (.lst (fills ss)), s5, s6, s7, .fz (.str z), s9, s10, s11, s12, s13, s14] = .ok (.va (.bl true) false) [s0, .ow .own (h), .ow .own (.lst (IL ss)), .fz (.int (prod ss 1)), .ow .own (.lst (fills ss)), s5, s6, s7, .fz (.str z), s9, s10, s11, s12, s13, s14] := xCmp_ok (bv := .va (.bl true) false) x0 rfl rfl rfl rfl
  have x1 : (xOwn (C "is_wire") [] (xACons (xLst (xCons (xVar 8) (xCons (xC (.int (4))) xNil))) xANil)) [s0, .ow .own (h), .ow .own (.lst (IL ss)), .fz (.int (prod ss 1)), .ow .own (.lst (fills ss)), s5, s6, s7, .fz (.str z), s9, s10, s11, s12, s13, s14] = .ok (.va (.bl true) false) [s0, .ow .own (h), .ow .own (.lst (IL ss)), .fz (.int (prod ss 1)), .ow .own (.lst (fills ss)), s5, s6, s7, .fz (.str z), s9, s10, s11, s12, s13, s14] := x_v1 (x := .lst [.str z, .int 4]) (b := true) (ρ1 := [s0, .ow .own (h), .ow .own (.lst (IL ss)), .fz (.int (prod ss 1)), .ow .own (.lst (fills ss)), s5, s6, s7, .fz (.str z), s9, s10, s11, s12, s13, s14]) rfl e2
  have y1 : (xCmp .Is (xOwn (C "is_wire") [] (xACons (xLst (xCons (xVar 8) (xCons (xC (.int (4))) xNil))) xANil)) (xC (.bl true))) [s0, .ow .own (h), .ow .own (.lst (IL ss)), .fz (.int (prod ss 1)), .ow .own (.lst (fills ss)), s5, s6, s7, .fz (.str z), s9, s10, s11, s12, s13, s14] = .ok (.va (.bl true) false) [s0, .ow .own (h), .ow .own (.lst (IL ss)), .fz (.int (prod ss 1)), .ow .own (.lst (fills ss)), s5, s6, s7, .fz (.str z), s9, s10, s11, s12, s13, s14] := xCmp_ok (bv := .va (.bl true) false) x1 rfl rfl rfl rfl
  have x2 : (xOwn (C "is_wire") [] (xACons (xTup (xCons (xVar 8) (xCons (xC (.int (5))) xNil))) xANil)) [s0, .ow .own (h), .ow .own (.lst (IL ss)), .fz (.int (prod ss 1)), .ow .own (.lst (fills ss)), s5, s6, s7, .fz (.str z), s9, s10, s11, s12, s13, s14] = .ok (.va (.bl false) false) [s0, .ow .own (h), .ow .own (.lst (IL ss)), .fz (.int (prod ss 1)), .ow .own (.lst (fills ss)), s5, s6, s7, .fz (.str z), s9, s10, s11, s12, s13, s14] := x_v1 (x := .tup [.str z, .int 5]) (b := false) (ρ1 := [s0, .ow .own (h), .ow .own (.lst (IL ss)), .fz (.int (prod ss 1)), .ow .own (.lst (fills ss)), s5, s6, s7, .fz (.str z), s9, s10, s11, s12, s13, s14]) rfl e3
  have y2 : (xCmp .Is (xOwn (C "is_wire") [] (xACons (xTup (xCons (xVar 8) (xCons (xC (.int (5))) xNil))) xANil)) (xC (.bl false))) [s0, .ow .own (h), .ow .own (.lst (IL ss)), .fz (.int (prod ss 1)), .ow .own (.lst (fills ss)), s5, s6, s7, .fz (.str z), s9, s10, s11, s12, s13, s14] = .ok (.va (.bl true) false) [s0, .ow .own (h), .ow .own (.lst (IL ss)), .fz (.int (prod ss 1)), .ow .own (.lst (fills ss)), s5, s6, s7, .fz (.str z), s9, s10, s11, s12, s13, s14] := xCmp_ok (bv := .va (.bl false) false) x2 rfl rfl rfl rfl
  refine sRet_ok ?_
  rw [xAnd_t y0, xAnd_t y1]
  exact y2
end LawP
end

section
set_option Elab.async false
set_option linter.all false
set_option maxRecDepth 100000
set_option maxHeartbeats 4000000
namespace LawP
open PySem PySem.Spec L2 VE

theorem law_m (C : Str → List Sl → Cr) (Gn : Str → List D → Option (List D)) : m_law C Gn = (sCons (sSet 1 (xOwn (C "_law_hand") [] (xACons (xVar 0) xANil))) (sCons (sSet 2 (xOwn (C "_law_drawn_sizes") [] (xACons (xVar 1) xANil))) (sCons (sSet 3 (xOwn (C "_law_many") [] (xACons (xVar 2) xANil))) (sCons (sSet 4 (xOwn (C "_law_fillings") [] (xACons (xVar 2) xANil))) (sCons (sSet 5 (xOwn (C "count_fillings") [] (xACons (xBi "tuple" (xACons (xVar 2) xANil)) xANil))) (sCons (sIf (VE.tOr (VE.tNot (tE (xOwn (C "_law_int") [] (xACons (xVar 5) xANil)))) (VE.tOr (tCm (xCmp .NotEq (xVar 5) (xVar 3))) (VE.tOr (tCm (xCmp .NotEq (xLGen (Gn "fillings_of") (xCons (xBi "list" (xACons (xVar 2) xANil)) xNil)) (xVar 4))) (VE.tNot (tE (xOwn (C "_law_tuples") [] (xACons (xBi "tuple" (xACons (xLGen (Gn "fillings_of") (xCons (xBi "tuple" (xACons (xVar 2) xANil)) xNil)) xANil)) xANil))))))) (sCons (sRet (xC (.bl false))) sNil) sNil) (sCons (sFor (VE.iRng1 (xC (.int (6)))) (agI 6) (turnB C)) (sCons (sFor (VE.iGen (oddL C)) (agI 7) (oddB C)) (sCons (sFor (VE.iRng1 (xC (.int (4)))) (agI 6) (spB C)) (sCons (sSet 8 (xOwn (C "_law_name") [] (xACons (xVar 1) (xACons (xOwn (C "_law_take") [] (xACons (xVar 1) (xACons (xC (.int (26))) xANil))) xANil)))) (sCons (sFor (VE.iGen (thingsX C)) (agI 9) (nameB C)) (sCons (sRet (xAnd (xCmp .Is (xOwn (C "is_wire") [] (xACons (xTup (xCons (xVar 8) (xCons (xC (.int (2))) xNil))) xANil)) (xC (.bl true))) (xAnd (xCmp .Is (xOwn (C "is_wire") [] (xACons (xLst (xCons (xVar 8) (xCons (xC (.int (4))) xNil))) xANil)) (xC (.bl true))) (xCmp .Is (xOwn (C "is_wire") [] (xACons (xTup (xCons (xVar 8) (xCons (xC (.int (5))) xNil))) xANil)) (xC (.bl false)))))) sNil)))))))))))) := rfl
theorem xLGen_ok {g : List D → Option (List D)} {es : XL} {ρ ρ1 : Ro} {ds ys : List D} (h : es ρ = .ok ds ρ1) (hg : g ds = some ys) : xLGen g es ρ = .ok (.va (.lst ys) true) ρ1 := by
  unfold xLGen
  rw [h]
  simp only [hg]
theorem xBi1_ok {f : Str} {a : XE} {ρ ρ1 : Ro} {d : D} {fl : Bool} {v : D × Bool} (h : a ρ = .ok (.va d fl) ρ1) (hb : biD f [d] = some v) : xBi f (xACons a xANil) ρ = .ok (.va v.1 v.2) ρ1 := by
  have q := xACons_ok (r := xANil) h rfl
  unfold xBi
  rw [q]
  show Rs.of ((biD f [d]).map _) _ = _
  rw [hb]
  rfl
theorem plain_at (k : Nat) : Plain 60 (k + 9) := by
  intro ns hl _
  show ∃ as, (Mk (k + 6)).call "law" [.fz (.scr (ns.map .int))] = _
  rw [call_eq (k := k + 5) (e := e_law) rfl (mo_law (k + 5)) rfl rfl]
  obtain ⟨cells, tot, as0, e0, h0⟩ := c_hand (k + 4) ns hl
  obtain ⟨ss, p1, b1, t1, e1, h1, ok⟩ := c_dsizes (k + 2) h0
  have e2 := c_many (k + 4) (s0 := .ow .par (.lst (IL ss))) (.inl rfl) ok.toSOk
  have e3 := c_lfills (k + 3) ok
  have e4 := c_count (k + 4) (s0 := .fz (.tup (IL ss))) (.inr (.inr rfl)) ok.toSOk
  have e5 := c_int (k + 4) (d := .int (prod ss 1)) rfl
  have g1 := c_gen k (d := .lst (IL ss)) (.inl rfl) ok
  have g2 := c_gen k (d := .tup (IL ss)) (.inr rfl) ok
  have e6 := c_tuples_fills (k + 2) ss
  obtain ⟨p2, b2, t2, u6, u7, u10, e7, h2, n6, n7, n10⟩ := turns k ok h1 (s5 := .fz (.int (prod ss 1))) (s6 := .un) (s7 := .un) (s8 := .un) (s9 := .un) (s10 := .un) (s11 := .un) (s12 := .un) (s13 := .un) (s14 := .un) (s0 := .fz (.scr (ns.map .int))) rfl rfl rfl
  obtain ⟨p3, b3, t3, v5, v7, e8, h3, n5, _⟩ := odd_all (k + 2) ok h2 (s5 := .fz (.int (prod ss 1))) (s6 := u6) (s7 := u7) (s8 := .un) (s9 := .un) (s10 := u10) (s11 := .un) (s12 := .un) (s13 := .un) (s14 := .un) (s0 := .fz (.scr (ns.map .int))) rfl n7
  obtain ⟨p4, b4, t4, w5, w6, w11, w12, e9, h4⟩ := sp_all k ok h3 (s5 := v5) (s6 := u6) (s7 := v7) (s8 := .un) (s9 := .un) (s10 := u10) (s11 := .un) (s12 := .un) (s13 := .un) (s14 := .un) (s0 := .fz (.scr (ns.map .int))) n5 n6 rfl rfl
  obtain ⟨f, p5, b5, t5, ea, f0, f1, h5⟩ := c_take (k + 3) h4 (m := 26) (by decide) (by decide)
  obtain ⟨z, p6, b6, t6, eb, h6, hz⟩ := c_name (k + 2) f0 f1 h5
  obtain ⟨p7, b7, t7, s9, s13, s14, ec⟩ := names_all (k + 2) (ss := ss) hz h6 (s5 := w5) (s6 := w6) (s7 := v7) (s9 := .un) (s10 := u10) (s11 := w11) (s12 := w12) (s13 := .un) (s14 := .un) (s0 := .fz (.scr (ns.map .int))) rfl rfl rfl
  have ed := law_ret (k + 3) hz (ss := ss) (h := HD cells p7 b7 t7) (s5 := w5) (s6 := w6) (s7 := v7) (s9 := s9) (s10 := u10) (s11 := w11) (s12 := w12) (s13 := s13) (s14 := s14) (s0 := .fz (.scr (ns.map .int)))
  rw [law_m]
  generalize (Mk (k + 5)).call = C at e0 e1 e2 e3 e4 e5 e6 e7 e8 e9 ea eb ec ed ⊢
  generalize (Mk (k + 5)).gen = Gn at g1 g2 ⊢
  show ∃ as, endF _ (sCons _ _ [.fz (.scr (ns.map .int)), .un, .un, .un, .un, .un, .un, .un, .un, .un, .un, .un, .un, .un, .un]) = _
  have x0 : (xOwn (C "_law_hand") [] (xACons (xVar 0) xANil)) [.fz (.scr (ns.map .int)), .un, .un, .un, .un, .un, .un, .un, .un, .un, .un, .un, .un, .un, .un] = .ok (.va (HD cells 0 0 tot) true) [.fz (.scr (ns.map .int)), .un, .un, .un, .un, .un, .un, .un, .un, .un, .un, .un, .un, .un, .un] := x_v1 (x := .scr (ns.map .int)) (b := false) (ρ1 := [.fz (.scr (ns.map .int)), .un, .un, .un, .un, .un, .un, .un, .un, .un, .un, .un, .un, .un, .un]) rfl e0
  rw [seq_next (sSet_ok (ρ2 := [.fz (.scr (ns.map .int)), .ow .own (HD cells 0 0 tot), .un, .un, .un, .un, .un, .un, .un, .un, .un, .un, .un, .un, .un]) x0 (putI_own (ρ := [.fz (.scr (ns.map .int)), .un, .un, .un, .un, .un, .un, .un, .un, .un, .un, .un, .un, .un, .un]) rfl))]
  have x1 : (xOwn (C "_law_drawn_sizes") [] (xACons (xVar 1) xANil)) [.fz (.scr (ns.map .int)), .ow .own (HD cells 0 0 tot), .un, .un, .un, .un, .un, .un, .un, .un, .un, .un, .un, .un, .un] = .ok (.va (.lst (IL ss)) true) [.fz (.scr (ns.map .int)), .ow .own (HD cells p1 b1 t1), .un, .un, .un, .un, .un, .un, .un, .un, .un, .un, .un, .un, .un] := x_own0 (i := 1) rfl e1 rfl
  rw [seq_next (sSet_ok (ρ2 := [.fz (.scr (ns.map .int)), .ow .own (HD cells p1 b1 t1), .ow .own (.lst (IL ss)), .un, .un, .un, .un, .un, .un, .un, .un, .un, .un, .un, .un]) x1 (putI_own (ρ := [.fz (.scr (ns.map .int)), .ow .own (HD cells p1 b1 t1), .un, .un, .un, .un, .un, .un, .un, .un, .un, .un, .un, .un, .un]) rfl))]
  have x2 : (xOwn (C "_law_many") [] (xACons (xVar 2) xANil)) [.fz (.scr (ns.map .int)), .ow .own (HD cells p1 b1 t1), .ow .own (.lst (IL ss)), .un, .un, .un, .un, .un, .un, .un, .un, .un, .un, .un, .un] = .ok (.va (.int (prod ss 1)) false) [.fz (.scr (ns.map .int)), .ow .own (HD cells p1 b1 t1), .ow .own (.lst (IL ss)), .un, .un, .un, .un, .un, .un, .un, .un, .un, .un, .un, .un] := x_own0 (i := 2) rfl e2 rfl
  rw [seq_next (sSet_ok (ρ2 := [.fz (.scr (ns.map .int)), .ow .own (HD cells p1 b1 t1), .ow .own (.lst (IL ss)), .fz (.int (prod ss 1)), .un, .un, .un, .un, .un, .un, .un, .un, .un, .un, .un]) x2 (putI_ok (ρ := [.fz (.scr (ns.map .int)), .ow .own (HD cells p1 b1 t1), .ow .own (.lst (IL ss)), .un, .un, .un, .un, .un, .un, .un, .un, .un, .un, .un, .un]) rfl))]
  have x3 : (xOwn (C "_law_fillings") [] (xACons (xVar 2) xANil)) [.fz (.scr (ns.map .int)), .ow .own (HD cells p1 b1 t1), .ow .own (.lst (IL ss)), .fz (.int (prod ss 1)), .un, .un, .un, .un, .un, .un, .un, .un, .un, .un, .un] = .ok (.va (.lst (fills ss)) true) [.fz (.scr (ns.map .int)), .ow .own (HD cells p1 b1 t1), .ow .own (.lst (IL ss)), .fz (.int (prod ss 1)), .un, .un, .un, .un, .un, .un, .un, .un, .un, .un, .un] := x_own0 (i := 2) rfl e3 rfl
  rw [seq_next (sSet_ok (ρ2 := [.fz (.scr (ns.map .int)), .ow .own (HD cells p1 b1 t1), .ow .own (.lst (IL ss)), .fz (.int (prod ss 1)), .ow .own (.lst (fills ss)), .un, .un, .un, .un, .un, .un, .un, .un, .un, .un]) x3 (putI_own (ρ := [.fz (.scr (ns.map .int)), .ow .own (HD cells p1 b1 t1), .ow .own (.lst (IL ss)), .fz (.int (prod ss 1)), .un, .un, .un, .un, .un, .un, .un, .un, .un, .un, .un]) rfl))]
  have bt : xBi "tuple" (xACons (xVar 2) xANil) [.fz (.scr (ns.map .int)), .ow .own (HD cells p1 b1 t1), .ow .own (.lst (IL ss)), .fz (.int (prod ss 1)), .ow .own (.lst (fills ss)), .un, .un, .un, .un, .un, .un, .un, .un, .un, .un] = .ok (.va (.tup (IL ss)) false) [.fz (.scr (ns.map .int)), .ow .own (HD cells p1 b1 t1), .ow .own (.lst (IL ss)), .fz (.int (prod ss 1)), .ow .own (.lst (fills ss)), .un, .un, .un, .un, .un, .un, .un, .un, .un, .un] := rfl
  have x4 : (xOwn (C "count_fillings") [] (xACons (xBi "tuple" (xACons (xVar 2) xANil)) xANil)) [.fz (.scr (ns.map .int)), .ow .own (HD cells p1 b1 t1), .ow .own (.lst (IL ss)), .fz (.int (prod ss 1)), .ow .own (.lst (fills ss)), .un, .un, .un, .un, .un, .un, .un, .un, .un, .un] = .ok (.va (.int (prod ss 1)) false) [.fz (.scr (ns.map .int)), .ow .own (HD cells p1 b1 t1), .ow .own (.lst (IL ss)), .fz (.int (prod ss 1)), .ow .own (.lst (fills ss)), .un, .un, .un, .un, .un, .un, .un, .un, .un, .un] := x_v1 bt e4
  rw [seq_next (sSet_ok (ρ2 := [.fz (.scr (ns.map .int)), .ow .own (HD cells p1 b1 t1), .ow .own (.lst (IL ss)), .fz (.int (prod ss 1)), .ow .own (.lst (fills ss)), .fz (.int (prod ss 1)), .un, .un, .un, .un, .un, .un, .un, .un, .un]) x4 (putI_ok (ρ := [.fz (.scr (ns.map .int)), .ow .own (HD cells p1 b1 t1), .ow .own (.lst (IL ss)), .fz (.int (prod ss 1)), .ow .own (.lst (fills ss)), .un, .un, .un, .un, .un, .un, .un, .un, .un, .un]) rfl))]
  have x5 : (xOwn (C "_law_int") [] (xACons (xVar 5) xANil)) [.fz (.scr (ns.map .int)), .ow .own (HD cells p1 b1 t1), .ow .own (.lst (IL ss)), .fz (.int (prod ss 1)), .ow .own (.lst (fills ss)), .fz (.int (prod ss 1)), .un, .un, .un, .un, .un, .un, .un, .un, .un] = .ok (.va (.bl true) false) [.fz (.scr (ns.map .int)), .ow .own (HD cells p1 b1 t1), .ow .own (.lst (IL ss)), .fz (.int (prod ss 1)), .ow .own (.lst (fills ss)), .fz (.int (prod ss 1)), .un, .un, .un, .un, .un, .un, .un, .un, .un] := x_v1 (x := .int (prod ss 1)) (b := false) (ρ1 := [.fz (.scr (ns.map .int)), .ow .own (HD cells p1 b1 t1), .ow .own (.lst (IL ss)), .fz (.int (prod ss 1)), .ow .own (.lst (fills ss)), .fz (.int (prod ss 1)), .un, .un, .un, .un, .un, .un, .un, .un, .un]) rfl e5
  have y1 : (tCm (xCmp .NotEq (xVar 5) (xVar 3))) [.fz (.scr (ns.map .int)), .ow .own (HD cells p1 b1 t1), .ow .own (.lst (IL ss)), .fz (.int (prod ss 1)), .ow .own (.lst (fills ss)), .fz (.int (prod ss 1)), .un, .un, .un, .un, .un, .un, .un, .un, .un] = .ok false [.fz (.scr (ns.map .int)), .ow .own (HD cells p1 b1 t1), .ow .own (.lst (IL ss)), .fz (.int (prod ss 1)), .ow .own (.lst (fills ss)), .fz (.int (prod ss 1)), .un, .un, .un, .un, .un, .un, .un, .un, .un] := tCm_ok (bx := .va (.int (prod ss 1)) false) (bv := .va (.int (prod ss 1)) false) (ρ1 := [.fz (.scr (ns.map .int)), .ow .own (HD cells p1 b1 t1), .ow .own (.lst (IL ss)), .fz (.int (prod ss 1)), .ow .own (.lst (fills ss)), .fz (.int (prod ss 1)), .un, .un, .un, .un, .un, .un, .un, .un, .un]) rfl rfl rfl rfl (by rw [cm_ne, decide_eq_true rfl]; rfl)
  have y2 : (xCons (xBi "list" (xACons (xVar 2) xANil)) xNil) [.fz (.scr (ns.map .int)), .ow .own (HD cells p1 b1 t1), .ow .own (.lst (IL ss)), .fz (.int (prod ss 1)), .ow .own (.lst (fills ss)), .fz (.int (prod ss 1)), .un, .un, .un, .un, .un, .un, .un, .un, .un] = .ok [.lst (IL ss)] [.fz (.scr (ns.map .int)), .ow .own (HD cells p1 b1 t1), .ow .own (.lst (IL ss)), .fz (.int (prod ss 1)), .ow .own (.lst (fills ss)), .fz (.int (prod ss 1)), .un, .un, .un, .un, .un, .un, .un, .un, .un] := xCons_v (f := true) (ρ1 := [.fz (.scr (ns.map .int)), .ow .own (HD cells p1 b1 t1), .ow .own (.lst (IL ss)), .fz (.int (prod ss 1)), .ow .own (.lst (fills ss)), .fz (.int (prod ss 1)), .un, .un, .un, .un, .un, .un, .un, .un, .un]) rfl rfl
  have y3 : (xLGen (Gn "fillings_of") (xCons (xBi "list" (xACons (xVar 2) xANil)) xNil)) [.fz (.scr (ns.map .int)), .ow .own (HD cells p1 b1 t1), .ow .own (.lst (IL ss)), .fz (.int (prod ss 1)), .ow .own (.lst (fills ss)), .fz (.int (prod ss 1)), .un, .un, .un, .un, .un, .un, .un, .un, .un] = .ok (.va (.lst (fills ss)) true) [.fz (.scr (ns.map .int)), .ow .own (HD cells p1 b1 t1), .ow .own (.lst (IL ss)), .fz (.int (prod ss 1)), .ow .own (.lst (fills ss)), .fz (.int (prod ss 1)), .un, .un, .un, .un, .un, .un, .un, .un, .un] := xLGen_ok y2 g1
  have y4 : (tCm (xCmp .NotEq (xLGen (Gn "fillings_of") (xCons (xBi "list" (xACons (xVar 2) xANil)) xNil)) (xVar 4))) [.fz (.scr (ns.map .int)), .ow .own (HD cells p1 b1 t1), .ow .own (.lst (IL ss)), .fz (.int (prod ss 1)), .ow .own (.lst (fills ss)), .fz (.int (prod ss 1)), .un, .un, .un, .un, .un, .un, .un, .un, .un] = .ok false [.fz (.scr (ns.map .int)), .ow .own (HD cells p1 b1 t1), .ow .own (.lst (IL ss)), .fz (.int (prod ss 1)), .ow .own (.lst (fills ss)), .fz (.int (prod ss 1)), .un, .un, .un, .un, .un, .un, .un, .un, .un] := tCm_ok (bv := .at 4) (ρ1 := [.fz (.scr (ns.map .int)), .ow .own (HD cells p1 b1 t1), .ow .own (.lst (IL ss)), .fz (.int (prod ss 1)), .ow .own (.lst (fills ss)), .fz (.int (prod ss 1)), .un, .un, .un, .un, .un, .un, .un, .un, .un]) y3 rfl rfl rfl (fills_ne ss)
  have y5 : (xCons (xBi "tuple" (xACons (xVar 2) xANil)) xNil) [.fz (.scr (ns.map .int)), .ow .own (HD cells p1 b1 t1), .ow .own (.lst (IL ss)), .fz (.int (prod ss 1)), .ow .own (.lst (fills ss)), .fz (.int (prod ss 1)), .un, .un, .un, .un, .un, .un, .un, .un, .un] = .ok [.tup (IL ss)] [.fz (.scr (ns.map .int)), .ow .own (HD cells p1 b1 t1), .ow .own (.lst (IL ss)), .fz (.int (prod ss 1)), .ow .own (.lst (fills ss)), .fz (.int (prod ss 1)), .un, .un, .un, .un, .un, .un, .un, .un, .un] := xCons_v (f := false) (ρ1 := [.fz (.scr (ns.map .int)), .ow .own (HD cells p1 b1 t1), .ow .own (.lst (IL ss)), .fz (.int (prod ss 1)), .ow .own (.lst (fills ss)), .fz (.int (prod ss 1)), .un, .un, .un, .un, .un, .un, .un, .un, .un]) rfl rfl
  have y6 : (xLGen (Gn "fillings_of") (xCons (xBi "tuple" (xACons (xVar 2) xANil)) xNil)) [.fz (.scr (ns.map .int)), .ow .own (HD cells p1 b1 t1), .ow .own (.lst (IL ss)), .fz (.int (prod ss 1)), .ow .own (.lst (fills ss)), .fz (.int (prod ss 1)), .un, .un, .un, .un, .un, .un, .un, .un, .un] = .ok (.va (.lst (fills ss)) true) [.fz (.scr (ns.map .int)), .ow .own (HD cells p1 b1 t1), .ow .own (.lst (IL ss)), .fz (.int (prod ss 1)), .ow .own (.lst (fills ss)), .fz (.int (prod ss 1)), .un, .un, .un, .un, .un, .un, .un, .un, .un] := xLGen_ok y5 g2
  have y7 : (xBi "tuple" (xACons (xLGen (Gn "fillings_of") (xCons (xBi "tuple" (xACons (xVar 2) xANil)) xNil)) xANil)) [.fz (.scr (ns.map .int)), .ow .own (HD cells p1 b1 t1), .ow .own (.lst (IL ss)), .fz (.int (prod ss 1)), .ow .own (.lst (fills ss)), .fz (.int (prod ss 1)), .un, .un, .un, .un, .un, .un, .un, .un, .un] = .ok (.va (.tup (fills ss)) false) [.fz (.scr (ns.map .int)), .ow .own (HD cells p1 b1 t1), .ow .own (.lst (IL ss)), .fz (.int (prod ss 1)), .ow .own (.lst (fills ss)), .fz (.int (prod ss 1)), .un, .un, .un, .un, .un, .un, .un, .un, .un] := xBi1_ok (v := (.tup (fills ss), false)) y6 rfl
  have y8 : (xOwn (C "_law_tuples") [] (xACons (xBi "tuple" (xACons (xLGen (Gn "fillings_of") (xCons (xBi "tuple" (xACons (xVar 2) xANil)) xNil)) xANil)) xANil)) [.fz (.scr (ns.map .int)), .ow .own (HD cells p1 b1 t1), .ow .own (.lst (IL ss)), .fz (.int (prod ss 1)), .ow .own (.lst (fills ss)), .fz (.int (prod ss 1)), .un, .un, .un, .un, .un, .un, .un, .un, .un] = .ok (.va (.bl true) false) [.fz (.scr (ns.map .int)), .ow .own (HD cells p1 b1 t1), .ow .own (.lst (IL ss)), .fz (.int (prod ss 1)), .ow .own (.lst (fills ss)), .fz (.int (prod ss 1)), .un, .un, .un, .un, .un, .un, .un, .un, .un] := x_v1 y7 e6
  have z5 : (VE.tOr (VE.tNot (tE (xOwn (C "_law_int") [] (xACons (xVar 5) xANil)))) (VE.tOr (tCm (xCmp .NotEq (xVar 5) (xVar 3))) (VE.tOr (tCm (xCmp .NotEq (xLGen (Gn "fillings_of") (xCons (xBi "list" (xACons (xVar 2) xANil)) xNil)) (xVar 4))) (VE.tNot (tE (xOwn (C "_law_tuples") [] (xACons (xBi "tuple" (xACons (xLGen (Gn "fillings_of") (xCons (xBi "tuple" (xACons (xVar 2) xANil)) xNil)) xANil)) xANil))))))) [.fz (.scr (ns.map .int)), .ow .own (HD cells p1 b1 t1), .ow .own (.lst (IL ss)), .fz (.int (prod ss 1)), .ow .own (.lst (fills ss)), .fz (.int (prod ss 1)), .un, .un, .un, .un, .un, .un, .un, .un, .un] = .ok false [.fz (.scr (ns.map .int)), .ow .own (HD cells p1 b1 t1), .ow .own (.lst (IL ss)), .fz (.int (prod ss 1)), .ow .own (.lst (fills ss)), .fz (.int (prod ss 1)), .un, .un, .un, .un, .un, .un, .un, .un, .un] := by
    rw [tOr_f (tNot_ok (tE_ok x5)), tOr_f y1, tOr_f y4]
    exact tNot_ok (tE_ok y8)
  rw [seq_next (sIf_skip z5), seq_next e7, seq_next e8, seq_next e9]
  have xa : (xOwn (C "_law_take") [] (xACons (xVar 1) (xACons (xC (.int (26))) xANil))) [.fz (.scr (ns.map .int)), .ow .own (HD cells p4 b4 t4), .ow .own (.lst (IL ss)), .fz (.int (prod ss 1)), .ow .own (.lst (fills ss)), w5, w6, v7, .un, .un, u10, w11, w12, .un, .un] = .ok (.va (.int f) false) [.fz (.scr (ns.map .int)), .ow .own (HD cells p5 b5 t5), .ow .own (.lst (IL ss)), .fz (.int (prod ss 1)), .ow .own (.lst (fills ss)), w5, w6, v7, .un, .un, u10, w11, w12, .un, .un] := x_own1p (i := 1) (x := .int 26) (b := false) rfl rfl ea rfl
  have xb : (xOwn (C "_law_name") [] (xACons (xVar 1) (xACons (xOwn (C "_law_take") [] (xACons (xVar 1) (xACons (xC (.int (26))) xANil))) xANil))) [.fz (.scr (ns.map .int)), .ow .own (HD cells p4 b4 t4), .ow .own (.lst (IL ss)), .fz (.int (prod ss 1)), .ow .own (.lst (fills ss)), w5, w6, v7, .un, .un, u10, w11, w12, .un, .un] = .ok (.va (.str z) false) [.fz (.scr (ns.map .int)), .ow .own (HD cells p6 b6 t6), .ow .own (.lst (IL ss)), .fz (.int (prod ss 1)), .ow .own (.lst (fills ss)), w5, w6, v7, .un, .un, u10, w11, w12, .un, .un] := x_own1 (i := 1) rfl xa rfl eb rfl
  rw [seq_next (sSet_ok (ρ2 := [.fz (.scr (ns.map .int)), .ow .own (HD cells p6 b6 t6), .ow .own (.lst (IL ss)), .fz (.int (prod ss 1)), .ow .own (.lst (fills ss)), w5, w6, v7, .fz (.str z), .un, u10, w11, w12, .un, .un]) xb (putI_ok (ρ := [.fz (.scr (ns.map .int)), .ow .own (HD cells p6 b6 t6), .ow .own (.lst (IL ss)), .fz (.int (prod ss 1)), .ow .own (.lst (fills ss)), w5, w6, v7, .un, .un, u10, w11, w12, .un, .un]) rfl)), seq_next ec, seq_ret ed]
  exact ⟨_, rfl⟩
end LawP
end

section
set_option Elab.async false
set_option linter.all false
theorem PySem.Challenge.cw_alreadytold_k02_whole_wires_and_fillings_holds : PySem.Challenge.rw_alreadytold_k02_whole_wires_and_fillings.Holds := by
  exact LawP.ends 60 12 ⟨rfl, by decide, by decide⟩ (LawP.plain_at 3)
end
