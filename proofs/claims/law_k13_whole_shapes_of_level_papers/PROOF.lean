import PyProof.Rows.All
import Wide.All
import OpenK.AllK
import Wide.FinOn
import PySem.Syntax
import HandS.List
import HandS.ForMost
import HandS.ForExc
import HandS.Walk
import HandS.Wide
import HandS.Zip
import HandS.Conv
import HandS.FStr
import HandS.IsInst
import HandS.Style
import HandS.Flow
import HandS.Lambda
import HandS.SortInts
import HandS.TupAny
import HandS.TupMul
import HandS.RaiseMore
import PyProof.SumWalkG
import HandS.ExcValue
import HandS.ExcOwn
import HandS.CallSlots
import HandS.Small
import HandS.Ends
import HandS.TryMany
import HandS.Words
import HandS.Codes
import PySem.Challenge.RW_seenbins_k13_whole_shapes_of_level_paper
set_option linter.all false
/-! PiCore: a small language of expressions and statements over plain data, and what it computes.
Lists are values; one that stands in a local name alone may be changed (own); a shared changing list is a cell (ref). -/
namespace Pi
open PySem

/-- plain data -/
inductive D where
  | non | bl (b : Bool) | int (i : Int) | str (x : Str)
  | tup (xs : List D) | lst (xs : List D)
  | ref (n : Nat) | fn (x : Str) | ty (n : String)
  /-- a list that is only read (the script) -/
  | scr (xs : List D)

/-- a fresh list, or any value -/
inductive Rv where
  | val (d : D) | new (xs : List D)
@[simp] def Rv.d : Rv → D
  | .val d => d
  | .new xs => .lst xs

/-- a slot of the frame -/
inductive Sl where
  | no | val (d : D) | own (xs : List D)

structure St where
  env : List Sl
  sto : List (List D)

/-- an exception: its class's name, its fields -/
structure Xc where
  cls : Str
  args : List D

abbrev Rs (α : Type) := Option (Except Xc α × St)
@[simp] def bnd {α β : Type} (m : Rs α) (f : α → St → Rs β) : Rs β := match m with
  | none => none
  | some (.ok a, s) => f a s
  | some (.error x, s) => some (.error x, s)
@[simp] def gd {α : Type} (c : Prop) [Decidable c] (m : Option α) : Option α := if c then m else none
@[simp] def okk {α : Type} (a : α) (s : St) : Rs α := some (.ok a, s)
@[simp] def lift {α : Type} (m : Option α) (s : St) : Rs α := match m with
  | none => none
  | some a => some (.ok a, s)
@[simp] def fz (m : Rs Rv) : Rs D := bnd m fun r s => okk r.d s

inductive Ty where
  | int | bool | str | tuple | list | dict
  deriving DecidableEq
inductive Bi where
  | len | abs | int | str | max | min | sum | any | all | sorted | list | tuple | repr
  deriving DecidableEq
inductive Me where
  | append | pop
  deriving DecidableEq
inductive Ms where
  | join
  deriving DecidableEq
/-- targets -/
inductive T where
  | nm (i : Nat) | nil | cons (t r : T)

inductive E where
  | cN | cB (b : Bool) | cI (i : Int) | cS (x : Str)
  | loc (i : Nat) | glb (x : Str) | typ (n : String)
  | bin (o : Operator) (a b : E) | neg (a : E)
  | and (a b : E) | or (a b : E) | not (a : E)
  | tand (a b : E) | tor (a b : E) | tnot (a : E) | tru (a : E)
  | cmp (o : CmpOp) (a b : E) | cmp2 (o1 o2 : CmpOp) (a b c : E)
  | isN (a : E) | notN (a : E) | isi (a : E) (t : Ty)
  | ite (c a b : E)
  | tup (as : E) | lst (as : E)
  | idx (a i : E) | slc (a lo hi : E) | no | yes (e : E)
  | comp (vs : List Nat) (e : E) (t : T) (src c : E)
  | comp2 (vs vs2 : List Nat) (e : E) (t : T) (src c : E) (t2 : T) (src2 c2 : E)
  | itr (e : E) | rng1 (a : E) | rng2 (a b : E) | zip2 (a b : E) | enm (a : E) | revd (a : E)
  | call (f : Str) (as : E) | blt (f : Bi) (as : E) | len (a : E) | rlst1 (a : E) | rlst2 (a b : E) | mth (m : Me) (o as : E) | sth (m : Ms) (o as : E)
  | fmt (a : E) | fstr (as : E)
  /-- how many unlike items; a def that a name holds, called; a lambda handed to a def that tells its end: the def, whose body we are in, where its table stands, what the lambda says -/
  | lset (a : E) | callv (i : Nat) (as : E) | lam (w x : Str) (j : Nat) (e : E)
  | cell (e : E)
  | nil | cons (a r : E)

inductive S where
  | skip | seq (a b : S)
  | set (t : T) (e : E) | par (ts : List Nat) (as : E) | put (o i e : E) | aug (i : Nat) (o : Operator) (e : E)
  | ret (e : E) | retN
  | ite (c : E) (a b : S) | whl (c : E) (b : S) | for (t : T) (src : E) (b : S)
  | exp (e : E) | brk | cnt
  | raise (x : Str)

/-! ### operations on values -/
def szL : Nat := 16777216
theorem szL_eq : szL = sizeLine := by decide
@[simp] def isNon : D → Bool
  | .non => true | _ => false
/-- flat things -/
@[simp] def flat : D → Bool
  | .non => true | .bl _ => true | .int _ => true | .str _ => true | _ => false
def b2i (b : Bool) : Int := if b then 1 else 0
def eqF : D → D → Bool
  | .non, .non => true
  | .bl a, .bl b => a == b
  | .int a, .int b => a == b
  | .bl a, .int b => b2i a == b
  | .int a, .bl b => a == b2i b
  | .str a, .str b => a == b
  | _, _ => false
mutual
def toP : D → Option PyData
  | .non => some .none | .bl b => some (.bool b) | .int i => some (.int i) | .str x => some (.str x)
  | .tup xs => (toPs xs).map .tuple | .lst xs => (toPs xs).map .list
  | _ => none
def toPs : List D → Option (List PyData)
  | [] => some []
  | x :: r => (toP x).bind fun a => (toPs r).map fun l => a :: l
end
def mulOk (i j : Int) : Bool := decide (i.natAbs.log2 + j.natAbs.log2 < 1000000)
def divOk (j : Int) : Bool := (decide (0 < j) && decide (j.natAbs.log2 < 9000)) || (decide (j ≠ 0) && decide (j.natAbs < 1073741824))
def fdiv (i j : Int) : Int := if 0 < j then i / j else i.fdiv j
def fmod (i j : Int) : Int := if 0 < j then i % j else i.fmod j
def lexI : List D → List D → Option Bool
  | [], [] => some false
  | [], .int _ :: r => (lexI [] r).map fun _ => true
  | .int _ :: r, [] => (lexI r []).map fun _ => false
  | .int a :: xs, .int b :: ys => (lexI xs ys).map fun k => if a = b then k else decide (a < b)
  | _, _ => none

def addOp : D → D → Option Rv
  | .int i, .int j => some (.val (.int (i + j)))
  | .str x, .str y => gd (x.length + y.length ≤ szL) (some (.val (.str (x ++ y))))
  | .lst xs, .lst ys => gd (xs.length + ys.length ≤ szL) (some (.new (xs ++ ys)))
  | .tup xs, .tup ys => gd (xs.length + ys.length ≤ szL) (some (.val (.tup (xs ++ ys))))
  | _, _ => none
def subOp : D → D → Option Rv
  | .int i, .int j => some (.val (.int (i - j)))
  | _, _ => none
def mulOp : D → D → Option Rv
  | .int i, .int j => gd (mulOk i j = true) (some (.val (.int (i * j))))
  | .lst xs, .int k => gd (-(2 ^ 63) ≤ k ∧ k < 2 ^ 63 ∧ xs.length * k.toNat ≤ szL) (some (.new (List.replicate k.toNat xs).flatten))
  | .tup xs, .int k => gd (xs ≠ [] ∧ 1 ≤ k ∧ k ≤ 1000 ∧ xs.length ≤ 1000) (some (.val (.tup (List.replicate k.toNat xs).flatten)))
  | _, _ => none
def divOp : D → D → Option Rv
  | .int i, .int j => gd (divOk j = true) (some (.val (.int (fdiv i j))))
  | _, _ => none
def modOp : D → D → Option Rv
  | .int i, .int j => gd (j ≠ 0) (some (.val (.int (fmod i j))))
  | _, _ => none
def powOp : D → D → Option Rv
  | .int i, .int j => gd (0 ≤ j ∧ j ≤ 1000000 ∧ i.natAbs < 2 ^ 64) (some (.val (.int (i ^ j.toNat))))
  | _, _ => none
@[simp] def binOp : Operator → D → D → Option Rv
  | .Add => addOp | .Sub => subOp | .Mult => mulOp | .FloorDiv => divOp | .Mod => modOp | .Pow => powOp
  | _ => fun _ _ => none

def strEq : D → D → Option Bool
  | .str a, .str b => some (a == b)
  | _, _ => none
def eqP (x y : D) : Option Bool := (toP x).bind fun p => (toP y).bind fun q => gd (SeqAt.shaped p = true ∧ SeqAt.shaped q = true) (some (PyData.eqv p q))
def eqO (x y : D) : Option Bool := match strEq x y with
  | some b => some b
  | none => eqP x y
def ltOp : D → D → Option Bool
  | .int i, .int j => some (decide (i < j))
  | _, _ => none
def leOp : D → D → Option Bool
  | .int i, .int j => some (decide (i ≤ j))
  | _, _ => none
def gtOp : D → D → Option Bool
  | .int i, .int j => some (decide (j < i))
  | _, _ => none
def geOp : D → D → Option Bool
  | .int i, .int j => some (decide (j ≤ i))
  | _, _ => none
def inOp : D → D → Option Bool
  | x, .lst ys => gd (flat x = true ∧ ys.all flat = true) (some (ys.any fun y => eqF y x))
  | x, .tup ys => gd (flat x = true ∧ ys.all flat = true) (some (ys.any fun y => eqF y x))
  | .str x, .str y => some (!(Builtin.Str.occurrences y x 0 y.length 1).isEmpty)
  | _, _ => none
def isOp : D → D → Option Bool
  | .bl a, .bl b => some (a == b)
  | _, _ => none
@[simp] def cmpOp : CmpOp → D → D → Option Bool
  | .Is => isOp
  | .IsNot => fun x y => (isOp x y).map fun b => !b
  | .Eq => eqO
  | .NotEq => fun x y => (eqO x y).map fun b => !b
  | .Lt => ltOp | .LtE => leOp | .Gt => gtOp | .GtE => geOp
  | .In => inOp
  | .NotIn => fun x y => (inOp x y).map fun b => !b

def truth : D → Option Bool
  | .bl b => some b
  | .int i => some (i != 0)
  | .non => some false
  | .lst xs => some (!xs.isEmpty)
  | .tup xs => some (!xs.isEmpty)
  | .str x => gd (x.length ≤ szL) (some (x.length != 0))
  | _ => none

/-- the place of an index -/
def ixOf (n : Nat) (i : Int) : Option Nat := if 0 ≤ i then (if i < n then some i.toNat else none) else if -(n : Int) ≤ i then some (i + n).toNat else none
def atD {α : Type} (xs : List α) (i : Int) : Option α := (ixOf xs.length i).bind fun j => xs[j]?
/-- a slice's end -/
def sIx (n d : Nat) : Option Int → Nat
  | none => d
  | some v => if v < 0 then (v + n).toNat else min v.toNat n
def cut {α : Type} (xs : List α) (lo hi : Option Int) : List α := (xs.drop (sIx xs.length 0 lo)).take (sIx xs.length xs.length hi - sIx xs.length 0 lo)

def allInts : List D → Option (List Int)
  | [] => some []
  | .int i :: r => (allInts r).map fun l => i :: l
  | _ :: _ => none
def allBls : List D → Option (List Bool)
  | [] => some []
  | .bl i :: r => (allBls r).map fun l => i :: l
  | _ :: _ => none
def allStrs : List D → Option (List Str)
  | [] => some []
  | .str i :: r => (allStrs r).map fun l => i :: l
  | _ :: _ => none
def allLsts : List D → Option (List (List D))
  | [] => some []
  | .lst i :: r => (allLsts r).map fun l => i :: l
  | _ :: _ => none
def insI (x : Int) : List Int → List Int
  | [] => [x]
  | y :: r => if x ≤ y then x :: y :: r else y :: insI x r
def sortI : List Int → List Int
  | [] => []
  | x :: r => insI x (sortI r)
def maxI : Int → List Int → Int
  | m, [] => m
  | m, y :: r => maxI (if y > m then y else m) r
def minI : Int → List Int → Int
  | m, [] => m
  | m, y :: r => minI (if y < m then y else m) r
def isTy : D → Ty → Option Bool
  | .non, _ => some false
  | .bl _, .bool => some true | .bl _, .int => some true | .bl _, _ => some false
  | .int _, .int => some true | .int _, _ => some false
  | .str _, .str => some true | .str _, _ => some false
  | .tup _, .tuple => some true | .tup _, _ => some false
  | .lst _, .list => some true | .lst _, _ => some false
  | _, _ => none

/-- built-in calls of values -/
def lenOp : List D → Option Rv
  | [.str x] => gd (x.length ≤ szL) (some (.val (.int x.length)))
  | [.tup xs] => some (.val (.int xs.length))
  | [.lst xs] => some (.val (.int xs.length))
  | [.scr xs] => some (.val (.int xs.length))
  | _ => none
def absOp : List D → Option Rv
  | [.int i] => some (.val (.int (if i < 0 then -i else i)))
  | _ => none
def intOp : List D → Option Rv
  | [.int i] => some (.val (.int i))
  | [.bl b] => some (.val (.int (b2i b)))
  | _ => none
def strOp : List D → Option Rv
  | [.int i] => gd (i.natAbs.log2 < 1920) (some (.val (.str (toString i))))
  | [.str x] => some (.val (.str x))
  | _ => none
def maxOp : List D → Option Rv
  | [.int i, .int j] => some (.val (.int (if j > i then j else i)))
  | [.lst xs] => match allInts xs with
    | some (m :: r) => some (.val (.int (maxI m r)))
    | _ => none
  | _ => none
def minOp : List D → Option Rv
  | [.int i, .int j] => some (.val (.int (if j < i then j else i)))
  | [.lst xs] => match allInts xs with
    | some (m :: r) => some (.val (.int (minI m r)))
    | _ => none
  | _ => none
def sumOp : List D → Option Rv
  | [.lst xs] => (allInts xs).map fun l => .val (.int l.sum)
  | _ => none
/-- the lists' items, one behind the other -/
def flatD : List D → Option (List D)
  | [] => some []
  | .lst xs :: r => (flatD r).map fun l => xs ++ l
  | _ :: _ => none
def sumL : List D → Option Rv
  | [.lst xss, .lst ys] => (flatD xss).bind fun l => gd (ys.length + l.length ≤ szL) (some (.val (.lst (ys ++ l))))
  | ds => sumOp ds
def anyOp : List D → Option Rv
  | [.lst xs] => (allBls xs).map fun l => .val (.bl (l.any id))
  | _ => none
def allOp : List D → Option Rv
  | [.lst xs] => (allBls xs).map fun l => .val (.bl (l.all id))
  | _ => none
def sortedOp : List D → Option Rv
  | [.lst xs] => (allInts xs).map fun l => .new ((sortI l).map .int)
  | _ => none
def listOp : List D → Option Rv
  | [.lst xs] => some (.new xs)
  | [.tup xs] => some (.new xs)
  | _ => none
def tupleOp : List D → Option Rv
  | [.lst xs] => some (.val (.tup xs))
  | [.tup xs] => some (.val (.tup xs))
  | _ => none
def reprOp : List D → Option Rv
  | [d] => (toP d).bind fun p => gd (p.showable = true ∧ p.shown.length ≤ szL ∧ p.depth ≤ 64) (some (.val (.str p.shown)))
  | _ => none
@[simp] def biOp : Bi → List D → Option Rv
  | .len => lenOp | .abs => absOp | .int => intOp | .str => strOp | .max => maxOp | .min => minOp | .sum => sumL
  | .any => anyOp | .all => allOp | .sorted => sortedOp | .list => listOp | .tuple => tupleOp | .repr => reprOp

/-! ### the frame -/
def Sl.at (env : List Sl) (i : Nat) : Sl := env.getD i .no
/-- what stands where an operand does -/
inductive Opd where
  | val (d : D) | slot (k : Nat)
/-- an operand that is only looked at: a local name keeps its list -/
def brw (a : E) (m : Rs Rv) (s : St) : Rs Opd := match a with
  | .loc k => match Sl.at s.env k with
    | .own _ => okk (.slot k) s
    | _ => bnd m fun r s => okk (.val r.d) s
  | _ => bnd m fun r s => okk (.val r.d) s
/-- a cell that stands for the table of a def's code: the def -/
def isMk : List D → Option Str
  | [.scr [.fn x]] => some x
  | _ => none
def mk (x : Str) : List D := [.scr [.fn x]]
/-- its data as it stands -/
def Opd.get : Opd → St → Option D
  | .val (.ref n), s => (s.sto[n]?).bind fun xs => gd (isMk xs = none) (some (.lst xs))
  | .val d, _ => some d
  | .slot k, s => match Sl.at s.env k with
    | .own xs => some (.lst xs)
    | _ => none
/-- a changed list -/
def Opd.put : Opd → List D → St → Option St
  | .val (.ref n), xs, s => gd (n < s.sto.length ∧ isMk xs = none) (some { s with sto := s.sto.set n xs })
  | .slot k, xs, s => match Sl.at s.env k with
    | .own _ => some { s with env := s.env.set k (.own xs) }
    | _ => none
  | _, _, _ => none

def idxOp : D → D → Option D
  | .lst xs, .int i => atD xs i
  | .tup xs, .int i => atD xs i
  | .str z, .int i => gd (z.length ≤ szL) ((atD z.cps.toList i).map fun c => .str ⟨#[c]⟩)
  | _, _ => none
def slcOp : D → Option Int → Option Int → Option Rv
  | .lst xs, lo, hi => some (.new (cut xs lo hi))
  | .scr xs, lo, hi => some (.new (cut xs lo hi))
  | .tup xs, lo, hi => some (.val (.tup (cut xs lo hi)))
  | .str z, lo, hi => gd (z.length ≤ szL) (some (.val (.str ⟨(cut z.cps.toList lo hi).toArray⟩)))
  | _, _, _ => none

/-- binding a target -/
def bindT : T → D → List Sl → Option (List Sl)
  | .nm i, d, env => gd (i < env.length) (some (env.set i (.val d)))
  | .nil, .tup [], env => some env
  | .cons t r, .tup (x :: xs), env => (bindT t x env).bind fun env' => bindT r (.tup xs) env'
  | _, _, _ => none
/-- slots of a block's own names -/
def wipeE (env : List Sl) : List Nat → List Sl
  | [] => env
  | i :: r => (wipeE env r).set i .no
def freeOf (env : List Sl) (vs : List Nat) : Bool := vs.all fun i => match Sl.at env i with
  | .own _ => false
  | _ => true
def backE (old env : List Sl) : List Nat → List Sl
  | [] => env
  | i :: r => (backE old env r).set i (Sl.at old i)

/-- a comprehension's turns -/
def lcGo (vs : List Nat) (t : T) (c e : St → Rs Rv) : List D → List D → St → Rs (List D)
  | [], acc, s => okk acc s
  | x :: r, acc, s => match bindT t x (wipeE s.env vs) with
    | none => none
    | some env => match c { s with env := env } with
      | some (.ok (.val (.bl true)), s1) => match e s1 with
        | some (.ok y, s2) => gd (acc.length < szL) (lcGo vs t c e r (acc ++ [y.d]) s2)
        | _ => none
      | some (.ok (.val (.bl false)), s1) => lcGo vs t c e r acc s1
      | _ => none
def lc2Go (vs vs2 : List Nat) (t t2 : T) (c c2 e : St → Rs Rv) (src2 : St → Rs (List D)) : List D → List D → St → Rs (List D)
  | [], acc, s => okk acc s
  | x :: r, acc, s => match bindT t x (wipeE s.env vs) with
    | none => none
    | some env => match c { s with env := env } with
      | some (.ok (.val (.bl true)), s1) => match src2 s1 with
        | some (.ok items, s2) => match lcGo vs2 t2 c2 e items acc s2 with
          | some (.ok acc2, s3) => lc2Go vs vs2 t t2 c c2 e src2 r acc2 s3
          | _ => none
        | _ => none
      | some (.ok (.val (.bl false)), s1) => lc2Go vs vs2 t t2 c c2 e src2 r acc s1
      | _ => none

/-- what the defs, constants of the module do -/
structure Cfg where
  fns : Str → List D → List (List D) → Option (Except Xc Rv × List (List D))
  cst : Str → Option D
  /-- what a def tells of the end of what it is handed: nothing raised, or what is raised -/
  wrd : Str → Option Xc → Option D
  /-- the defs -/
  dfs : Str → Bool

def fmtD : D → Option Str
  | .str y => gd (y.length ≤ szL) (some y)
  | .int i => gd (i.natAbs.log2 < 1920) (some (toString i))
  | _ => none
def items1 : D → Option (List D)
  | .lst xs => some xs
  | .tup xs => some xs
  | .str z => some (z.cps.toList.map fun c => .str ⟨#[c]⟩)
  | _ => none
def small62 (i : Int) : Prop := -(2 ^ 62) ≤ i ∧ i < 2 ^ 62
instance : Decidable (small62 i) := inferInstanceAs (Decidable (_ ∧ _))
def rng1 : D → Option (List D)
  | .int n => gd (small62 n) (some ((List.range n.toNat).map fun i => .int (i : Nat)))
  | _ => none
def rng2 : D → D → Option (List D)
  | .int a, .int b => gd (small62 a ∧ small62 b) (some ((List.range (b - a).toNat).map fun i => .int (a + (i : Nat))))
  | _, _ => none
def zipD : D → D → Option (List D)
  | .lst xs, .lst ys => some ((xs.zip ys).map fun p => .tup [p.1, p.2])
  | .tup xs, .tup ys => some ((xs.zip ys).map fun p => .tup [p.1, p.2])
  | _, _ => none
def enmD : D → Option (List D)
  | .lst xs => some ((xs.zipIdx).map fun p => .tup [.int (p.2 : Nat), p.1])
  | _ => none
def revD : D → Option (List D)
  | .lst xs => some xs.reverse
  | _ => none

/-- the unlike ones, in the order they are met -/
def met : List Int → List Int → List Int
  | acc, [] => acc
  | acc, x :: r => met (if acc.any (· == x) then acc else acc ++ [x]) r
/-- how many unlike ones: ints alone -/
def lsetOp : D → Option Rv
  | .lst xs => (allInts xs).bind fun l => gd (l.length ≤ 4000) (some (.val (.int ((met [] l).length : Nat))))
  | _ => none
/-- a method that changes a list: what comes, what stands there then -/
def appOp : List D → List D → Option (D × List D)
  | xs, [y] => gd (xs.length < szL) (some (.non, xs ++ [y]))
  | _, _ => none
def popOp : List D → List D → Option (D × List D)
  | xs, [] => (xs[xs.length - 1]?).map fun y => (y, xs.dropLast)
  | xs, [.int i] => gd (-(2 ^ 63) ≤ i ∧ i < 2 ^ 63) ((ixOf xs.length i).bind fun k => (xs[k]?).map fun y => (y, xs.eraseIdx k))
  | _, _ => none
@[simp] def mtOp : Me → List D → List D → Option (D × List D)
  | .append => appOp
  | .pop => popOp
/-- the list that stands there -/
def lstOf : Option D → Option (List D)
  | some (.lst xs) => some xs
  | _ => none
/-- a method of a text -/
def joinOp : Str → List D → Option Rv
  | a, [.lst xs] => (allStrs xs).bind fun l => gd ((l.map (·.length)).sum + l.length * a.length ≤ szL) (some (.val (.str (Txt.join a l))))
  | _, _ => none
@[simp] def msOp : Ms → Str → List D → Option Rv
  | .join => joinOp
mutual
def evE (C : Cfg) : E → St → Rs Rv
  | .cN, s => okk (.val .non) s
  | .cB b, s => okk (.val (.bl b)) s
  | .cI i, s => okk (.val (.int i)) s
  | .cS x, s => okk (.val (.str x)) s
  | .loc i, s => match Sl.at s.env i with
    | .no => none
    | .val d => okk (.val d) s
    | .own xs => okk (.val (.lst xs)) { s with env := s.env.set i (.val (.lst xs)) }
  | .glb x, s => lift ((C.cst x).map .val) s
  | .typ n, s => okk (.val (.ty n)) s
  | .bin o a b, s => bnd (fz (evE C a s)) fun x s => bnd (fz (evE C b s)) fun y s => lift (binOp o x y) s
  | .neg a, s => bnd (fz (evE C a s)) fun x s => match x with
    | .int i => okk (.val (.int (-i))) s
    | _ => none
  | .and a b, s => bnd (evE C a s) fun x s => match x with
    | .val (.bl true) => evE C b s
    | .val (.bl false) => okk (.val (.bl false)) s
    | _ => none
  | .or a b, s => bnd (evE C a s) fun x s => match x with
    | .val (.bl true) => okk (.val (.bl true)) s
    | .val (.bl false) => evE C b s
    | _ => none
  | .not a, s => bnd (evE C a s) fun x s => match x with
    | .val (.bl b) => okk (.val (.bl (!b))) s
    | _ => none
  | .tand a b, s => bnd (evE C a s) fun x s => match x with
    | .val (.bl true) => evE C b s
    | .val (.bl false) => okk (.val (.bl false)) s
    | _ => none
  | .tor a b, s => bnd (evE C a s) fun x s => match x with
    | .val (.bl true) => okk (.val (.bl true)) s
    | .val (.bl false) => evE C b s
    | _ => none
  | .tnot a, s => bnd (evE C a s) fun x s => match x with
    | .val (.bl b) => okk (.val (.bl (!b))) s
    | _ => none
  | .tru a, s => bnd (fz (evE C a s)) fun x s => lift ((truth x).map fun b => .val (.bl b)) s
  | .cmp o a b, s => bnd (fz (evE C a s)) fun x s => bnd (brw b (evE C b s) s) fun y s => lift ((y.get s).bind fun y => (cmpOp o x y).map fun b => .val (.bl b)) s
  | .cmp2 o1 o2 a b c, s => bnd (fz (evE C a s)) fun x s => bnd (fz (evE C b s)) fun y s => match cmpOp o1 x y with
    | some true => bnd (fz (evE C c s)) fun z s => lift ((cmpOp o2 y z).map fun b => .val (.bl b)) s
    | some false => okk (.val (.bl false)) s
    | none => none
  | .isN a, s => bnd (fz (evE C a s)) fun x s => okk (.val (.bl (isNon x))) s
  | .notN a, s => bnd (fz (evE C a s)) fun x s => okk (.val (.bl (!isNon x))) s
  | .isi a t, s => bnd (fz (evE C a s)) fun x s => lift ((isTy x t).map fun b => .val (.bl b)) s
  | .ite c a b, s => bnd (evE C c s) fun x s => match x with
    | .val (.bl true) => evE C a s
    | .val (.bl false) => evE C b s
    | _ => none
  | .tup as, s => bnd (evL C as s) fun ds s => gd (ds.length ≤ szL) (okk (.val (.tup ds)) s)
  | .lst as, s => bnd (evL C as s) fun ds s => gd (ds.length ≤ szL) (okk (.new ds) s)
  | .idx a i, s => bnd (brw a (evE C a s) s) fun o s => bnd (fz (evE C i s)) fun k s => lift ((o.get s).bind fun d => (idxOp d k).map .val) s
  | .slc a lo hi, s => bnd (brw a (evE C a s) s) fun o s => bnd (evO C lo s) fun l s => bnd (evO C hi s) fun h s => lift ((o.get s).bind fun d => slcOp d l h) s
  | .comp vs e t src c, s => bnd (evI C src s) fun items s => gd (freeOf s.env vs = true)
      (bnd (lcGo vs t (evE C c) (evE C e) items [] s) fun ds s' => okk (.new ds) { s' with env := backE s.env s'.env vs })
  | .comp2 vs vs2 e t src c t2 src2 c2, s => bnd (evI C src s) fun items s => gd (freeOf s.env vs = true)
      (bnd (lc2Go vs vs2 t t2 (evE C c) (evE C c2) (evE C e) (evI C src2) items [] s) fun ds s' => okk (.new ds) { s' with env := backE s.env s'.env vs })
  | .call f as, s => bnd (evL C as s) fun ds s => match C.fns f ds s.sto with
    | none => none
    | some (r, sto) => some (r, { s with sto := sto })
  | .blt f as, s => bnd (evL C as s) fun ds s => lift (biOp f ds) s
  | .len a, s => bnd (brw a (evE C a s) s) fun o s => lift ((o.get s).bind fun d => biOp .len [d]) s
  | .rlst1 a, s => bnd (fz (evE C a s)) fun x s => lift ((rng1 x).bind fun l => gd (l.length ≤ szL) (some (.new l))) s
  | .rlst2 a b, s => bnd (fz (evE C a s)) fun x s => bnd (fz (evE C b s)) fun y s => lift ((rng2 x y).bind fun l => gd (l.length ≤ szL) (some (.new l))) s
  | .mth m o as, s => bnd (brw o (evE C o s) s) fun o s => match lstOf (o.get s) with
    | none => none
    | some _ => bnd (evL C as s) fun ds s => match (lstOf (o.get s)).bind fun xs => mtOp m xs ds with
      | none => none
      | some (r, ys) => match o.put ys s with
        | none => none
        | some s' => okk (.val r) s'
  | .sth m o as, s => bnd (fz (evE C o s)) fun x s => match x with
    | .str a => bnd (evL C as s) fun ds s => lift (msOp m a ds) s
    | _ => none
  | .fmt a, s => bnd (fz (evE C a s)) fun x s => lift ((fmtD x).map fun y => .val (.str y)) s
  | .fstr as, s => bnd (evJ C as Str.empty s) fun y s => okk (.val (.str y)) s
  | .cell e, s => bnd (evE C e s) fun r s => match r with
    | .new xs => gd (isMk xs = none) (okk (.val (.ref s.sto.length)) { s with sto := s.sto ++ [xs] })
    | _ => none
  | .lset a, s => bnd (fz (evE C a s)) fun x s => lift (lsetOp x) s
  | .callv i as, s => match Sl.at s.env i with
    | .val (.fn f) => gd (C.dfs f = true) (bnd (evL C as s) fun ds s => match C.fns f ds s.sto with
      | none => none
      | some (r, sto) => some (r, { s with sto := sto }))
    | _ => none
  | .lam w x j e, s => gd ((s.sto[j]?).bind isMk = some x) (match evE C e s with
    | none => none
    | some (.ok _, s) => lift ((C.wrd w none).map .val) s
    | some (.error y, s) => lift ((C.wrd w (some y)).map .val) s)
  | _, _ => none
def evL (C : Cfg) : E → St → Rs (List D)
  | .nil, s => okk [] s
  | .cons a r, s => bnd (fz (evE C a s)) fun x s => bnd (evL C r s) fun xs s => okk (x :: xs) s
  | _, _ => none
def evJ (C : Cfg) : E → Str → St → Rs Str
  | .nil, acc, s => okk acc s
  | .cons a r, acc, s => bnd (fz (evE C a s)) fun x s => match x with
    | .str y => gd (acc.length + y.length ≤ szL) (evJ C r (acc ++ y) s)
    | _ => none
  | _, _, _ => none
def evO (C : Cfg) : E → St → Rs (Option Int)
  | .no, s => okk none s
  | .yes a, s => bnd (fz (evE C a s)) fun x s => match x with
    | .int i => okk (some i) s
    | _ => none
  | _, _ => none
def evI (C : Cfg) : E → St → Rs (List D)
  | .itr a, s => bnd (fz (evE C a s)) fun x s => lift (items1 x) s
  | .rng1 a, s => bnd (fz (evE C a s)) fun x s => lift (rng1 x) s
  | .rng2 a b, s => bnd (fz (evE C a s)) fun x s => bnd (fz (evE C b s)) fun y s => lift (rng2 x y) s
  | .zip2 a b, s => bnd (fz (evE C a s)) fun x s => bnd (fz (evE C b s)) fun y s => lift (zipD x y) s
  | .enm a, s => bnd (fz (evE C a s)) fun x s => lift (enmD x) s
  | .revd a, s => bnd (fz (evE C a s)) fun x s => lift (revD x) s
  | _, _ => none
end

/-! ### statements -/
inductive Fl where
  | nx | brk | cnt | ret (r : Rv)
def setT (t : T) (r : Rv) (s : St) : Option St := match t, r with
  | .nm i, .new xs => gd (i < s.env.length) (some { s with env := s.env.set i (.own xs) })
  | t, r => (bindT t r.d s.env).map fun env => { s with env := env }
def evRs (C : Cfg) : E → St → Rs (List Rv)
  | .nil, s => okk [] s
  | .cons a r, s => bnd (evE C a s) fun x s => bnd (evRs C r s) fun xs s => okk (x :: xs) s
  | _, _ => none
def setAll : List Nat → List Rv → St → Option St
  | [], [], s => some s
  | i :: is, r :: rs, s => (setT (.nm i) r s).bind fun s => setAll is rs s
  | _, _, _ => none
/-- a loop by its turns: what is left of the fuel, a turn's end -/
def iter (f : St → Rs (Option Fl)) : Nat → St → Rs Fl
  | 0, _ => none
  | n + 1, s => match f s with
    | none => none
    | some (.error x, s) => some (.error x, s)
    | some (.ok (some fl), s) => some (.ok fl, s)
    | some (.ok none, s) => iter f n s
open Classical in
noncomputable def loop (f : St → Rs (Option Fl)) (s : St) : Rs Fl := if h : ∃ n, (iter f n s).isSome = true then iter f (Classical.choose h) s else none
def forGo (t : T) (b : St → Rs Fl) : List D → St → Rs Fl
  | [], s => okk .nx s
  | x :: r, s => match (bindT t x s.env) with
    | none => none
    | some env => match b { s with env := env } with
      | none => none
      | some (.error x, s) => some (.error x, s)
      | some (.ok .nx, s) => forGo t b r s
      | some (.ok .cnt, s) => forGo t b r s
      | some (.ok .brk, s) => okk .nx s
      | some (.ok (.ret v), s) => okk (.ret v) s
/-- a while's turn -/
def whl1 (c : St → Rs Rv) (b : St → Rs Fl) (s : St) : Rs (Option Fl) := match c s with
  | none => none
  | some (.error x, s) => some (.error x, s)
  | some (.ok (.val (.bl false)), s) => okk (some .nx) s
  | some (.ok (.val (.bl true)), s) => match b s with
    | none => none
    | some (.error x, s) => some (.error x, s)
    | some (.ok .nx, s) => okk none s
    | some (.ok .cnt, s) => okk none s
    | some (.ok .brk, s) => okk (some .nx) s
    | some (.ok (.ret v), s) => okk (some (.ret v)) s
  | _ => none
def augOp : Operator → D → D → Option D
  | .Add, .int i, .int j => some (.int (i + j))
  | .Sub, .int i, .int j => some (.int (i - j))
  | _, _, _ => none
noncomputable def exS (C : Cfg) : S → St → Rs Fl
  | .skip, s => okk .nx s
  | .seq a b, s => bnd (exS C a s) fun fl s => match fl with
    | .nx => exS C b s
    | fl => okk fl s
  | .set t e, s => bnd (evE C e s) fun r s => match setT t r s with
    | none => none
    | some s => okk .nx s
  | .par ts as, s => bnd (evRs C as s) fun rs s => match setAll ts rs s with
    | none => none
    | some s => okk .nx s
  | .put o i e, s => bnd (fz (evE C e s)) fun x s => bnd (brw o (evE C o s) s) fun o s => bnd (fz (evE C i s)) fun k s => match (o.get s).bind (fun d => match d, k with
      | .lst xs, .int k => (ixOf xs.length k).map fun j => xs.set j x
      | _, _ => none) with
    | none => none
    | some xs => match o.put xs s with
      | none => none
      | some s => okk .nx s
  | .aug i o e, s => match Sl.at s.env i with
    | .val x => bnd (fz (evE C e s)) fun y s => match augOp o x y with
      | some z => match setT (.nm i) (.val z) s with
        | some s => okk .nx s
        | none => none
      | none => none
    | _ => none
  | .ret e, s => bnd (match e with
      | .loc i => match Sl.at s.env i with
        | .own xs => okk (.new xs) { s with env := s.env.set i .no }
        | _ => evE C e s
      | _ => evE C e s) fun r s => okk (.ret r) s
  | .retN, s => okk (.ret (.val .non)) s
  | .ite c a b, s => bnd (evE C c s) fun x s => match x with
    | .val (.bl true) => exS C a s
    | .val (.bl false) => exS C b s
    | _ => none
  | .whl c b, s => loop (whl1 (evE C c) (exS C b)) s
  | .for t src b, s => bnd (evI C src s) fun items s => forGo t (exS C b) items s
  | .exp e, s => bnd (evE C e s) fun _ s => okk .nx s
  | .brk, s => okk .brk s
  | .cnt, s => okk .cnt s
  | .raise x, s => some (.error ⟨x, []⟩, s)
/-- a def: its slots (the parameters first), its body -/
structure Fn where
  nps : Nat
  nsl : Nat
  body : S
noncomputable def Fn.run (C : Cfg) (f : Fn) (ds : List D) (sto : List (List D)) : Option (Except Xc Rv × List (List D)) :=
  gd (ds.length = f.nps) (match exS C f.body ⟨ds.map .val ++ List.replicate (f.nsl - f.nps) .no, sto⟩ with
    | none => none
    | some (.error x, s) => some (.error x, s.sto)
    | some (.ok (.ret r), s) => some (.ok r, s.sto)
    | some (.ok .nx, s) => some (.ok (.val .non), s.sto)
    | _ => none)
end Pi

set_option Elab.async false
set_option linter.all false
set_option maxRecDepth 100000
/-! PiRel: how plain data stands in the heap. -/
namespace Pi
open PySem L2

structure Wd where
  W : Addr → Prop
  io : List Addr

/-- a list of the written part -/
def KL (K : PySem.W.Frag) (a : Addr) (vs : List V) : Prop :=
  ∃ (o : Obj) (its : Array Value) (n : Nat), K.lookup a = some o ∧ o.cls = .type "list" ∧ o.dict = none ∧ o.data = .seq its n ∧ its.size ≤ sizeLine ∧ Vals vs its.toList
/-- a tuple of the written part -/
def KT (K : PySem.W.Frag) (a : Addr) (vs : List V) : Prop :=
  ∃ (o : Obj) (its : Array Value) (n : Nat), K.lookup a = some o ∧ o.cls = .type "tuple" ∧ o.data = .seq its n ∧ its.size ≤ sizeLine ∧ Vals vs its.toList

section
variable (K : PySem.W.Frag) (mg : Str → Option Value) (w : Wd) (H : Hp)
mutual
def RD : D → V → Prop
  | .non, v => v = .non
  | .bl b, v => v = .bl b
  | .int i, v => v = .int i
  | .str x, v => v = .str x
  | .tup ds, v => ∃ a vs, v = .ref a ∧ ((H a = some (.tup vs) ∧ ¬ w.W a) ∨ KT K a vs) ∧ RDs ds vs
  | .lst ds, v => ∃ a vs, v = .ref a ∧ (H a = some (.lst vs) ∧ ¬ w.W a) ∧ RDs ds vs
  | .scr ds, v => ∃ a vs, v = .ref a ∧ ((∃ o, H a = some (.frz o (.lst vs)) ∧ ¬ w.W a) ∨ KL K a vs) ∧ RDs ds vs
  | .ref n, v => ∃ a, v = .ref a ∧ w.io[n]? = some a
  | .fn x, v => ∃ a, v = .ref a ∧ mg x = some (.ref a)
  | .ty n, v => v = .ty n
def RDs : List D → List V → Prop
  | [], vs => vs = []
  | d :: ds, vs => ∃ v r, vs = v :: r ∧ RD d v ∧ RDs ds r
end
end

/-- what a step may do: only what is in Mu changes; what is marked stays marked but for what is in Mu; new marks are new objects -/
structure Go (Mu : Addr → Prop) (w : Wd) (H : Hp) (Mu' : Addr → Prop) (w' : Wd) (H' : Hp) : Prop where
  keep : ∀ a o, H a = some o → ¬ Mu a → H' a = some o
  there : ∀ a, H a ≠ none → H' a ≠ none
  wsub : ∀ a, w'.W a → w.W a ∨ H a = none
  msub : ∀ a, Mu' a → Mu a ∨ H a = none
  wsup : ∀ a, w.W a → ¬ Mu a → w'.W a
  pre : w.io <+: w'.io

/-- what a datum's standing leans on -/
structure Ext (M : Addr → Prop) (w : Wd) (H : Hp) (w' : Wd) (H' : Hp) : Prop where
  keep : ∀ a o, H a = some o → ¬ M a → H' a = some o
  wsub : ∀ a, w'.W a → w.W a ∨ H a = none
  pre : w.io <+: w'.io
def OwnAt (st : St) (σ : L2.St) (i : Nat) (a : Addr) : Prop := ∃ xs, st.env[i]? = some (.own xs) ∧ σ[i]? = some (some (.ref a))
def Mu (w : Wd) (st : St) (σ : L2.St) (a : Addr) : Prop := a ∈ w.io ∨ ∃ i, OwnAt st σ i a

/-- the words ahead of the names of what is made in a def -/
def lq (x : Str) : Str := x ++ ".<locals>."
/-- the name that a lambda of the def x bears -/
def lamQ (x : Str) : Str := lq x ++ "<lambda>"
/-- the table of the code of the def x stands at a -/
def TabAt (K : PySem.W.Frag) (H : Hp) (a : Addr) (x : Str) : Prop := (∃ c, PySem.W.tabIn K x = some (c, a)) ∧ LamX.TabS H a (lamQ x)
structure Rel (K : PySem.W.Frag) (mg : Str → Option Value) (w : Wd) (st : St) (σ : L2.St) (H : Hp) : Prop where
  len : σ.length = st.env.length
  val : ∀ (i : Nat) d, st.env[i]? = some (.val d) → ∃ v, σ[i]? = some (some v) ∧ RD K mg w H d v
  own : ∀ (i : Nat) xs, st.env[i]? = some (.own xs) → ∃ a vs, σ[i]? = some (some (.ref a)) ∧ H a = some (.lst vs) ∧ w.W a ∧ a ∉ w.io ∧ RDs K mg w H xs vs
  inj : ∀ (i j : Nat) a, OwnAt st σ i a → OwnAt st σ j a → i = j
  cell : ∀ (n : Nat) xs, st.sto[n]? = some xs → isMk xs = none → ∃ a vs, w.io[n]? = some a ∧ H a = some (.lst vs) ∧ w.W a ∧ RDs K mg w H xs vs
  tab : ∀ (n : Nat) xs x, st.sto[n]? = some xs → isMk xs = some x → ∃ a, w.io[n]? = some a ∧ w.W a ∧ TabAt K H a x
  stray : ∀ a ps, H a = some (.tbl ps) → a ∈ w.io
  slen : w.io.length = st.sto.length
  nd : w.io.Nodup
  alloc : ∀ a, w.W a → H a ≠ none

section
variable {K : PySem.W.Frag} {mg : Str → Option Value} {w w' w1 w2 : Wd} {H H' H1 H2 : Hp} {st st' st1 st2 : St} {σ σ' : L2.St} {M M' M1 M2 : Addr → Prop}

theorem Go.e (g : Go M w H M' w' H') : Ext M w H w' H' := ⟨g.keep, g.wsub, g.pre⟩
theorem Go.refl : Go M w H M w H := ⟨fun _ _ h _ => h, fun _ h => h, fun _ h => .inl h, fun _ h => .inl h, fun _ h _ => h, List.prefix_refl _⟩
theorem Go.trans (a : Go M w H M1 w1 H1) (b : Go M1 w1 H1 M2 w2 H2) (al : ∀ a, w.W a → H a ≠ none) : Go M w H M2 w2 H2 where
  keep := fun x o h n => b.keep x o (a.keep x o h n) fun q => (a.msub x q).elim n fun z => by rw [h] at z; cases z
  there := fun x h => b.there x (a.there x h)
  wsub := fun x h => by
    rcases b.wsub x h with q | q
    · exact a.wsub x q
    · exact .inr (Classical.byContradiction fun z => a.there x z q)
  msub := fun x h => by
    rcases b.msub x h with q | q
    · exact a.msub x q
    · exact .inr (Classical.byContradiction fun z => a.there x z q)
  wsup := fun x h n => b.wsup x (a.wsup x h n) fun q => (a.msub x q).elim n fun z => al x h z
  pre := a.pre.trans b.pre
theorem Go.fresh (g : Go M w H M' w' H') {a : Addr} (h : H' a = none) : H a = none := Classical.byContradiction fun z => g.there a z h

theorem mem_io (r : Rel K mg w st σ H) {a : Addr} (h : a ∈ w.io) : ∃ (n : Nat) (xs : List D), w.io[n]? = some a ∧ st.sto[n]? = some xs := by
  obtain ⟨n, hn, e⟩ := List.getElem_of_mem h
  have hn' : n < st.sto.length := by rw [← r.slen]; exact hn
  exact ⟨n, st.sto[n], by rw [List.getElem?_eq_getElem hn, e], List.getElem?_eq_getElem hn'⟩
theorem Rel.ioK (r : Rel K mg w st σ H) {a : Addr} (h : a ∈ w.io) : w.W a ∧ ((∃ vs, H a = some (.lst vs)) ∨ ∃ ps, H a = some (.tbl ps)) := by
  obtain ⟨n, xs, h1, h2⟩ := mem_io r h
  cases q : isMk xs with
  | none =>
    obtain ⟨a', vs, e1, e2, e3, _⟩ := r.cell n xs h2 q
    rw [h1] at e1; cases e1; exact ⟨e3, .inl ⟨_, e2⟩⟩
  | some x =>
    obtain ⟨a', e1, e3, _, ps, e4, _⟩ := r.tab n xs x h2 q
    rw [h1] at e1; cases e1; exact ⟨e3, .inr ⟨_, e4⟩⟩
theorem Rel.ioW (r : Rel K mg w st σ H) {a : Addr} (h : a ∈ w.io) : w.W a := (r.ioK h).1
theorem Rel.muW (r : Rel K mg w st σ H) {a : Addr} (h : Mu w st σ a) : w.W a := by
  rcases h with h | ⟨i, xs, h1, h2⟩
  · exact r.ioW h
  · obtain ⟨a', vs, e1, _, e3, _⟩ := r.own i xs h1
    rw [h2] at e1; cases e1; exact e3

/-- what may change is a list or a table -/
theorem Rel.muK (r : Rel K mg w st σ H) {a : Addr} (h : Mu w st σ a) : (∃ vs, H a = some (.lst vs)) ∨ ∃ ps, H a = some (.tbl ps) := by
  rcases h with h | ⟨i, xs, h1, h2⟩
  · exact (r.ioK h).2
  · obtain ⟨a', vs, e1, e2, _⟩ := r.own i xs h1
    rw [h2] at e1; cases e1; exact .inl ⟨_, e2⟩
/-- tables stay where all but lists stays -/
theorem TabAt.ext {a : Addr} {x : Str} (t : TabAt K H a x) (e : ∀ b o, H b = some o → (∀ vs, o ≠ .lst vs) → H' b = some o) : TabAt K H' a x := by
  obtain ⟨k, ps, h1, h2, h3⟩ := t
  refine ⟨k, ps, e _ _ h1 (fun _ z => nomatch z), h2, fun pos cv hc => ?_⟩
  obtain ⟨c, e1, e2⟩ := h3 pos cv hc
  exact ⟨c, e1, e _ _ e2 (fun vs z => by unfold LamX.CodeO at z; cases z)⟩
theorem TabAt.upd {a b : Addr} {x : Str} {vs : List V} {o : HO} (t : TabAt K H a x) (h : H b = some (.lst vs)) : TabAt K (upd H b o) a x :=
  t.ext fun c u e n => by
    rw [upd_ne (fun z => by subst z; rw [h] at e; cases e; exact n _ rfl)]; exact e
mutual
theorem RD.mono (g : Ext M w H w' H') (mw : ∀ a, M a → w.W a) : ∀ (d : D) (v : V), RD K mg w H d v → RD K mg w' H' d v
  | .non, _, h => h
  | .bl _, _, h => h
  | .int _, _, h => h
  | .str _, _, h => h
  | .tup ds, v, h => by
    obtain ⟨a, vs, e, q, r⟩ := h
    refine ⟨a, vs, e, ?_, RDs.mono g mw ds vs r⟩
    rcases q with ⟨q1, q2⟩ | q
    · exact .inl ⟨g.keep a _ q1 fun z => q2 (mw a z), fun z => (g.wsub a z).elim q2 fun z => by rw [q1] at z; cases z⟩
    · exact .inr q
  | .lst ds, v, h => by
    obtain ⟨a, vs, e, ⟨q1, q2⟩, r⟩ := h
    exact ⟨a, vs, e, ⟨g.keep a _ q1 fun z => q2 (mw a z), fun z => (g.wsub a z).elim q2 fun z => by rw [q1] at z; cases z⟩, RDs.mono g mw ds vs r⟩
  | .scr ds, v, h => by
    obtain ⟨a, vs, e, q, r⟩ := h
    refine ⟨a, vs, e, ?_, RDs.mono g mw ds vs r⟩
    rcases q with ⟨o, q1, q2⟩ | q
    · exact .inl ⟨o, g.keep a _ q1 fun z => q2 (mw a z), fun z => (g.wsub a z).elim q2 fun z => by rw [q1] at z; cases z⟩
    · exact .inr q
  | .ref n, v, h => by
    obtain ⟨a, e, q⟩ := h
    obtain ⟨t, ht⟩ := g.pre
    refine ⟨a, e, ?_⟩
    rw [← ht, List.getElem?_append_left (List.getElem?_eq_some_iff.mp q).1]
    exact q
  | .fn _, _, h => h
  | .ty _, _, h => h
theorem RDs.mono (g : Ext M w H w' H') (mw : ∀ a, M a → w.W a) : ∀ (ds : List D) (vs : List V), RDs K mg w H ds vs → RDs K mg w' H' ds vs
  | [], _, h => h
  | d :: ds, vs, h => by
    obtain ⟨v, r, e, h1, h2⟩ := h
    exact ⟨v, r, e, RD.mono g mw d v h1, RDs.mono g mw ds r h2⟩
end
theorem RD.ext (r : Rel K mg w st σ H) (g : Ext (Mu w st σ) w H w' H') {d : D} {v : V} (h : RD K mg w H d v) : RD K mg w' H' d v := RD.mono g (fun _ => r.muW) d v h
theorem RDs.ext (r : Rel K mg w st σ H) (g : Ext (Mu w st σ) w H w' H') {d : List D} {v : List V} (h : RDs K mg w H d v) : RDs K mg w' H' d v := RDs.mono g (fun _ => r.muW) d v h
theorem RDs.length : ∀ {ds : List D} {vs : List V}, RDs K mg w H ds vs → vs.length = ds.length
  | [], _, h => by rw [show _ = [] from h]; rfl
  | d :: ds, _, h => by
    obtain ⟨v, r, rfl, _, h2⟩ := h
    rw [List.length_cons, List.length_cons, RDs.length h2]
theorem RDs.get : ∀ {ds : List D} {vs : List V} {i : Nat} {d : D}, RDs K mg w H ds vs → ds[i]? = some d → ∃ v, vs[i]? = some v ∧ RD K mg w H d v
  | [], _, _, _, _, e => by simp at e
  | d :: ds, _, 0, _, h, e => by
    obtain ⟨v, r, rfl, h1, _⟩ := h
    simp at e; subst e
    exact ⟨v, rfl, h1⟩
  | d :: ds, _, i + 1, _, h, e => by
    obtain ⟨v, r, rfl, _, h2⟩ := h
    obtain ⟨u, h3, h4⟩ := RDs.get (i := i) h2 (by simpa using e)
    exact ⟨u, by simpa using h3, h4⟩
theorem RDs.get' {ds : List D} {vs : List V} {i : Nat} {v : V} (h : RDs K mg w H ds vs) (e : vs[i]? = some v) : ∃ d, ds[i]? = some d ∧ RD K mg w H d v := by
  have hi := (List.getElem?_eq_some_iff.mp e).1
  rw [h.length] at hi
  obtain ⟨u, h1, h2⟩ := h.get (List.getElem?_eq_getElem hi)
  rw [e] at h1; cases h1
  exact ⟨_, List.getElem?_eq_getElem hi, h2⟩
theorem RDs.append : ∀ {ds es : List D} {vs us : List V}, RDs K mg w H ds vs → RDs K mg w H es us → RDs K mg w H (ds ++ es) (vs ++ us)
  | [], _, _, _, h, q => by rw [show _ = [] from h]; exact q
  | d :: ds, _, _, _, h, q => by
    obtain ⟨v, r, rfl, h1, h2⟩ := h
    exact ⟨v, _, rfl, h1, h2.append q⟩
theorem RDs.set : ∀ {ds : List D} {vs : List V} (i : Nat) {d : D} {v : V}, RDs K mg w H ds vs → RD K mg w H d v → RDs K mg w H (ds.set i d) (vs.set i v)
  | [], _, _, _, _, h, _ => by rw [show _ = [] from h]; rfl
  | _ :: _, _, 0, _, _, h, q => by
    obtain ⟨v, r, rfl, _, h2⟩ := h
    exact ⟨_, _, rfl, q, h2⟩
  | _ :: _, _, i + 1, _, _, h, q => by
    obtain ⟨v, r, rfl, h1, h2⟩ := h
    exact ⟨_, _, rfl, h1, h2.set i q⟩
theorem RDs.take : ∀ {ds : List D} {vs : List V} (n : Nat), RDs K mg w H ds vs → RDs K mg w H (ds.take n) (vs.take n)
  | _, _, 0, _ => rfl
  | [], _, n + 1, h => by rw [show _ = [] from h]; rfl
  | _ :: _, _, n + 1, h => by
    obtain ⟨v, r, rfl, h1, h2⟩ := h
    exact ⟨_, _, rfl, h1, h2.take n⟩
theorem RDs.drop : ∀ {ds : List D} {vs : List V} (n : Nat), RDs K mg w H ds vs → RDs K mg w H (ds.drop n) (vs.drop n)
  | _, _, 0, h => h
  | [], _, n + 1, h => by rw [show _ = [] from h]; rfl
  | _ :: _, _, n + 1, h => by
    obtain ⟨v, r, rfl, h1, h2⟩ := h
    exact h2.drop n
theorem RDs.dropLast {ds : List D} {vs : List V} (h : RDs K mg w H ds vs) : RDs K mg w H ds.dropLast vs.dropLast := by
  rw [List.dropLast_eq_take, List.dropLast_eq_take, h.length]
  exact h.take _
theorem RDs.erase : ∀ {ds : List D} {vs : List V} (i : Nat), RDs K mg w H ds vs → RDs K mg w H (ds.eraseIdx i) (vs.eraseIdx i)
  | [], _, _, h => by rw [show _ = [] from h]; rfl
  | _ :: _, _, 0, h => by
    obtain ⟨v, r, rfl, h1, h2⟩ := h
    exact h2
  | _ :: _, _, i + 1, h => by
    obtain ⟨v, r, rfl, h1, h2⟩ := h
    exact ⟨_, _, rfl, h1, h2.erase i⟩
theorem RDs.of_get : ∀ {ds : List D} {vs : List V}, vs.length = ds.length → (∀ (i : Nat) d v, ds[i]? = some d → vs[i]? = some v → RD K mg w H d v) → RDs K mg w H ds vs
  | [], [], _, _ => rfl
  | d :: ds, v :: vs, h, q => ⟨v, vs, rfl, q 0 d v rfl rfl, RDs.of_get (by simpa using h) fun i d v h1 h2 => q (i + 1) d v (by simpa using h1) (by simpa using h2)⟩
  | [], _ :: _, h, _ => by simp at h
  | _ :: _, [], h, _ => by simp at h
theorem RDs.reverse {ds : List D} {vs : List V} (h : RDs K mg w H ds vs) : RDs K mg w H ds.reverse vs.reverse := by
  refine RDs.of_get (by rw [List.length_reverse, List.length_reverse, h.length]) fun i d v h1 h2 => ?_
  have hi := (List.getElem?_eq_some_iff.mp h1).1
  rw [List.length_reverse] at hi
  rw [List.getElem?_reverse hi] at h1
  rw [List.getElem?_reverse (by rw [h.length]; exact hi), h.length] at h2
  obtain ⟨u, e, q⟩ := h.get h1
  rw [h2] at e; cases e; exact q

/-- a new list | tuple is laid -/
def Wd.add (w : Wd) (p : Addr) : Wd := ⟨fun a => w.W a ∨ a = p, w.io⟩
def Wd.sub (w : Wd) (p : Addr) : Wd := ⟨fun a => w.W a ∧ a ≠ p, w.io⟩
theorem go_new {o : HO} {p : Addr} (h : H p = none) : Go M w H M w (upd H p o) where
  keep := fun a u e _ => by rw [upd_ne (ne_of_none e h)]; exact e
  there := fun a e => by
    by_cases hp : a = p
    · rw [hp, upd_same]; intro z; cases z
    · rw [upd_ne hp]; exact e
  wsub := fun _ h => .inl h
  msub := fun _ h => .inl h
  wsup := fun _ h _ => h
  pre := List.prefix_refl _
theorem go_add {o : HO} {p : Addr} (h : H p = none) : Go M w H M (w.add p) (upd H p o) where
  keep := (go_new (w := w) h).keep
  there := (go_new (M := M) (w := w) h).there
  wsub := fun a q => q.elim .inl fun e => .inr (by rw [e]; exact h)
  msub := fun _ h => .inl h
  wsup := fun _ h _ => .inl h
  pre := List.prefix_refl _
/-- the same state over another heap, other marks -/
theorem Rel.step (r : Rel K mg w st σ H) (g : Ext (Mu w st σ) w H w' H') (hm : ∀ a, Mu w st σ a → ∀ o, H a = some o → H' a = some o) (io : w'.io = w.io) (ww : ∀ a, Mu w st σ a → w'.W a) (al : ∀ a, w'.W a → H' a ≠ none) (ht : ∀ a ps, H' a = some (.tbl ps) → H a = some (.tbl ps)) : Rel K mg w' st σ H' where
  len := r.len
  val := fun i d e => let ⟨v, h1, h2⟩ := r.val i d e; ⟨v, h1, h2.ext r g⟩
  own := fun i xs e => by
    obtain ⟨a, vs, h1, h2, h3, h4, h5⟩ := r.own i xs e
    exact ⟨a, vs, h1, hm a (.inr ⟨i, xs, e, h1⟩) _ h2, ww a (.inr ⟨i, xs, e, h1⟩), by rw [io]; exact h4, h5.ext r g⟩
  inj := r.inj
  cell := fun n xs e q => by
    obtain ⟨a, vs, h1, h2, h3, h4⟩ := r.cell n xs e q
    have m : Mu w st σ a := .inl (List.mem_of_getElem? h1)
    exact ⟨a, vs, by rw [io]; exact h1, hm a m _ h2, ww a m, h4.ext r g⟩
  tab := fun n xs x e q => by
    obtain ⟨a, h1, h3, h4⟩ := r.tab n xs x e q
    have m : Mu w st σ a := .inl (List.mem_of_getElem? h1)
    exact ⟨a, by rw [io]; exact h1, ww a m, h4.ext fun b o e _ => by
      by_cases mb : Mu w st σ b
      · exact hm b mb o e
      · exact g.keep b o e mb⟩
  stray := fun a ps e => by rw [io]; exact r.stray a ps (ht a ps e)
  slen := by rw [io]; exact r.slen
  nd := by rw [io]; exact r.nd
  alloc := al
theorem mu_of {M : Prop} : M → M := id
/-- no table -/
def NoT (o : HO) : Prop := ∀ ps, o ≠ .tbl ps
theorem noT_lst {xs : List V} : NoT (.lst xs) := fun _ z => nomatch z
theorem noT_tup {xs : List V} : NoT (.tup xs) := fun _ z => nomatch z
theorem upd_tbl {p : Addr} {o : HO} (ho : NoT o) (a : Addr) (ps : Array Value) (e : upd H p o a = some (.tbl ps)) : H a = some (.tbl ps) := by
  by_cases z : a = p
  · rw [z, upd_same] at e
    cases e
    exact absurd rfl (ho _)
  · rw [upd_ne z] at e; exact e
theorem Rel.new (r : Rel K mg w st σ H) {p : Addr} {o : HO} (h : H p = none) (ho : NoT o) : Rel K mg w st σ (upd H p o) :=
  r.step (go_new h).e (fun a _ u e => (go_new (M := fun _ => False) (w := w) (o := o) h).keep a u e id) rfl (fun a h => r.muW h) (fun a q => (go_new (M := fun _ => True) (w := w) h).there a (r.alloc a q)) (upd_tbl ho)
theorem Rel.add (r : Rel K mg w st σ H) {p : Addr} {o : HO} (h : H p = none) (ho : NoT o) : Rel K mg (w.add p) st σ (upd H p o) :=
  r.step (go_add h).e (fun a _ u e => (go_new (M := fun _ => False) (w := w) (o := o) h).keep a u e id) rfl (fun a h => .inl (r.muW h)) (fun a q => by
    rcases q with q | q
    · exact (go_new (M := fun _ => True) (w := w) h).there a (r.alloc a q)
    · rw [q, upd_same]; intro z; cases z) (upd_tbl ho)
theorem ext_sub {p : Addr} : Ext M w H (w.sub p) H := ⟨fun _ _ h _ => h, fun _ h => .inl h.1, List.prefix_refl _⟩
theorem Rel.sub (r : Rel K mg w st σ H) {p : Addr} (h : ¬ Mu w st σ p) : Rel K mg (w.sub p) st σ H :=
  r.step ext_sub (fun _ _ _ h => h) rfl (fun a q => ⟨r.muW q, fun e => h (e ▸ q)⟩) (fun a q => r.alloc a q.1) fun _ _ e => e
theorem Go.sub (g : Go M w H M' w' H') {p : Addr} (h : H p = none) (al : ∀ a, w.W a → H a ≠ none) : Go M w H M' (w'.sub p) H' :=
  ⟨g.keep, g.there, fun a q => g.wsub a q.1, g.msub, fun a q n => ⟨g.wsup a q n, fun e => al a q (e ▸ h)⟩, g.pre⟩

/-- what an expression's value is: any datum, or a list that nothing else holds, younger than H0 -/
def RvOk (K : PySem.W.Frag) (mg : Str → Option Value) (H0 : Hp) (w : Wd) (st : St) (σ : L2.St) (H : Hp) (r : Rv) (v : V) : Prop := match r with
  | .val d => RD K mg w H d v
  | .new xs => ∃ a vs, v = .ref a ∧ H a = some (.lst vs) ∧ w.W a ∧ ¬ Mu w st σ a ∧ H0 a = none ∧ RDs K mg w H xs vs

/-- an exception of the model: its class, no fields -/
def XOk (mg : Str → Option Value) (x : Xc) (cls : Value) : Prop := x.args = [] ∧ ∃ c, mg x.cls = some (.ref c) ∧ cls = .ref c

/-- the end of a computation as the heap has it. R: how what came stands (from the start H) -/
def Post (K : PySem.W.Frag) (mg : Str → Option Value) (X : WX) {α β : Type} (R : Hp → Wd → St → L2.St → Hp → α → β → Prop) (σ : L2.St) (H : Hp) (w : Wd) (st : St) (res : Rs α) (Q : β → Hp → Prop) : Prop := match res with
  | none => False
  | some (.ok r, st') => ∀ v w' H', Go (Mu w st σ) w H (Mu w' st' σ) w' H' → Rel K mg w' st' σ H' → R H w' st' σ H' r v → Q v H'
  | some (.error x, st') => ∀ cls d w' H', Go (Mu w st σ) w H (Mu w' st' σ) w' H' → Rel K mg w' st' σ H' → XOk mg x cls → X cls d σ H'

section
variable {X : WX} {α β γ δ : Type} {R : Hp → Wd → St → L2.St → Hp → α → β → Prop} {R2 : Hp → Wd → St → L2.St → Hp → γ → δ → Prop}
theorem Post.imp {res : Rs α} {Q Q' : β → Hp → Prop} (h : Post K mg X R σ H w st res Q) (q : ∀ v H', Q v H' → Q' v H') : Post K mg X R σ H w st res Q' := by
  rcases res with _ | ⟨r | r, st1⟩
  · exact h
  · exact h
  · exact fun v w' H' g r' o => q _ _ (h v w' H' g r' o)
/-- from the start H1 on is from the start H on -/
def Later (R : Hp → Wd → St → L2.St → Hp → α → β → Prop) : Prop := ∀ H H1 w st σ H' r v, (∀ a, H a ≠ none → H1 a ≠ none) → R H1 w st σ H' r v → R H w st σ H' r v
theorem Post.seq {m : Rs α} {f : α → St → Rs γ} {Q : δ → Hp → Prop} (rel : Rel K mg w st σ H) (l : Later R2) (h : Post K mg X R2 σ H w st (bnd m f) Q) :
    Post K mg X R σ H w st m fun v H1 => ∃ w1 st1 r1, Rel K mg w1 st1 σ H1 ∧ R H w1 st1 σ H1 r1 v ∧ Go (Mu w st σ) w H (Mu w1 st1 σ) w1 H1 ∧ Post K mg X R2 σ H1 w1 st1 (f r1 st1) Q := by
  rcases m with _ | ⟨r | r, st1⟩
  · exact h
  · exact h
  · intro v w1 H1 g r1 rv
    refine ⟨w1, st1, r, r1, rv, g, ?_⟩
    have h' : Post K mg X R2 σ H w st (f r st1) Q := h
    unfold Post at h' ⊢
    split
    · rename_i e; rw [e] at h'; exact h'
    · rename_i e
      rw [e] at h'
      exact fun v w' H' g' r' q => h' v w' H' (g.trans g' rel.alloc) r' (l _ _ _ _ _ _ _ _ g.there q)
    · rename_i e
      rw [e] at h'
      exact fun cls d w' H' g' r' q => h' cls d w' H' (g.trans g' rel.alloc) r' q
end
/-! ### the relations of what comes -/
abbrev RV_ (K : PySem.W.Frag) (mg : Str → Option Value) : Hp → Wd → St → L2.St → Hp → Rv → V → Prop := fun H0 w st σ H r v => RvOk K mg H0 w st σ H r v
abbrev RD_ (K : PySem.W.Frag) (mg : Str → Option Value) : Hp → Wd → St → L2.St → Hp → D → V → Prop := fun _ w _ _ H d v => RD K mg w H d v
abbrev RL_ (K : PySem.W.Frag) (mg : Str → Option Value) : Hp → Wd → St → L2.St → Hp → List D → List V → Prop := fun _ w _ _ H d v => RDs K mg w H d v
abbrev RB_ : Hp → Wd → St → L2.St → Hp → Rv → Bool → Prop := fun _ _ _ _ _ r b => r = .val (.bl b)
abbrev RO_ : Hp → Wd → St → L2.St → Hp → Option Int → Option Int → Prop := fun _ _ _ _ _ r b => r = b
def OpOk (K : PySem.W.Frag) (mg : Str → Option Value) (w : Wd) (st : St) (σ : L2.St) (H : Hp) : Opd → V → Prop
  | .val d, v => RD K mg w H d v
  | .slot k, v => σ[k]? = some (some v)
abbrev RP_ (K : PySem.W.Frag) (mg : Str → Option Value) : Hp → Wd → St → L2.St → Hp → Opd → V → Prop := fun _ w st σ H d v => OpOk K mg w st σ H d v ∧ ∀ k, d = .slot k → ∃ xs, st.env[k]? = some (.own xs)
theorem laterV : Later (RV_ K mg) := by
  intro H H1 w st σ H' r v h q
  cases r with
  | val d => exact q
  | new xs =>
    obtain ⟨a, vs, e, h1, h2, h3, h4, h5⟩ := q
    exact ⟨a, vs, e, h1, h2, h3, Classical.byContradiction fun z => h a z h4, h5⟩
theorem laterD : Later (RD_ K mg) := fun _ _ _ _ _ _ _ _ _ q => q
theorem laterL : Later (RL_ K mg) := fun _ _ _ _ _ _ _ _ _ q => q
theorem laterB : Later RB_ := fun _ _ _ _ _ _ _ _ _ q => q
theorem laterO : Later RO_ := fun _ _ _ _ _ _ _ _ _ q => q
theorem laterP : Later (RP_ K mg) := fun _ _ _ _ _ _ _ _ _ q => q

/-- a value that may be shared -/
theorem Post.fz {X : WX} {m : Rs Rv} {Q : V → Hp → Prop} (rel : Rel K mg w st σ H) (h : Post K mg X (RD_ K mg) σ H w st (Pi.fz m) Q) : Post K mg X (RV_ K mg) σ H w st m Q := by
  rcases m with _ | ⟨r | r, st1⟩
  · exact h
  · exact h
  · intro v w1 H1 g r1 rv
    have h' : ∀ v w' H', Go (Mu w st σ) w H (Mu w' st1 σ) w' H' → Rel K mg w' st1 σ H' → RD K mg w' H' r.d v → Q v H' := h
    cases r with
    | val d => exact h' v w1 H1 g r1 rv
    | new xs =>
      obtain ⟨a, vs, e, h1, h2, h3, h4, h5⟩ := rv
      have g2 : Go (Mu w st σ) w H (Mu (w1.sub a) st1 σ) (w1.sub a) H1 := g.sub h4 rel.alloc
      refine h' v (w1.sub a) H1 g2 (r1.sub h3) ⟨a, vs, e, ⟨h1, fun z => z.2 rfl⟩, RDs.mono (M := fun _ => False) ext_sub (fun _ z => z.elim) _ _ h5⟩
end
end Pi

set_option Elab.async false
set_option linter.all false
set_option maxRecDepth 100000
/-! PiOps: the operations on values stand as the heap has them. -/
namespace Pi
open PySem L2
section
variable {K : PySem.W.Frag} {mg : Str → Option Value} {w w' w1 w2 : Wd} {H H' H1 H2 : Hp} {st st' st1 st2 : St} {σ σ' : L2.St} {X : Cx}

/-- what is asked behind an operation that gave rv -/
def Done (K : PySem.W.Frag) (mg : Str → Option Value) (σ : L2.St) (H : Hp) (w : Wd) (st : St) (rv : Rv) (Q : VK) : Prop :=
  ∀ v w' H', Go (Mu w st σ) w H (Mu w' st σ) w' H' → Rel K mg w' st σ H' → RvOk K mg H w' st σ H' rv v → Q v H'
theorem Done.val {d : D} {v : V} {Q : VK} (q : Done K mg σ H w st (.val d) Q) (r : Rel K mg w st σ H) (h : RD K mg w H d v) : Q v H := q v w H Go.refl r h
theorem Done.lst {xs : List D} {vs : List V} {p : Addr} {Q : VK} (q : Done K mg σ H w st (.new xs) Q) (r : Rel K mg w st σ H) (hp : H p = none) (h : RDs K mg w H xs vs) : Q (.ref p) (upd H p (.lst vs)) := by
  refine q _ (w.add p) _ (go_add hp) (r.add hp noT_lst) ⟨p, vs, rfl, upd_same, .inr rfl, ?_, hp, h.ext r (go_add (M := Mu w st σ) hp).e⟩
  intro m
  exact r.alloc p (r.muW m) hp
theorem Done.tup {xs : List D} {vs : List V} {p : Addr} {Q : VK} (q : Done K mg σ H w st (.val (.tup xs)) Q) (r : Rel K mg w st σ H) (hp : H p = none) (h : RDs K mg w H xs vs) : Q (.ref p) (upd H p (.tup vs)) := by
  refine q _ w _ (go_new hp) (r.new hp noT_tup) ⟨p, vs, rfl, .inl ⟨upd_same, fun z => r.alloc p z hp⟩, h.ext r (go_new (M := Mu w st σ) hp).e⟩

/-! shapes of what stands -/
theorem RDs.ints : ∀ {xs : List D} {vs : List V} {l : List Int}, RDs K mg w H xs vs → allInts xs = some l → vs = l.map V.int ∧ xs = l.map D.int
  | [], _, _, h, e => by rw [show _ = [] from h]; cases e; exact ⟨rfl, rfl⟩
  | d :: xs, _, l, h, e => by
    obtain ⟨v, r, rfl, h1, h2⟩ := h
    cases d with
    | int i =>
      simp only [allInts] at e
      cases q : allInts xs with
      | none => rw [q] at e; cases e
      | some l' =>
        rw [q] at e; cases e
        obtain ⟨e1, e2⟩ := h2.ints q
        rw [show v = .int i from h1, e1, e2]
        exact ⟨rfl, rfl⟩
    | _ => cases e
theorem RDs.bls : ∀ {xs : List D} {vs : List V} {l : List Bool}, RDs K mg w H xs vs → allBls xs = some l → vs = l.map V.bl
  | [], _, _, h, e => by rw [show _ = [] from h]; cases e; rfl
  | d :: xs, _, l, h, e => by
    obtain ⟨v, r, rfl, h1, h2⟩ := h
    cases d with
    | bl i =>
      simp only [allBls] at e
      cases q : allBls xs with
      | none => rw [q] at e; cases e
      | some l' =>
        rw [q] at e; cases e
        rw [show v = .bl i from h1, h2.bls q]
        rfl
    | _ => cases e
theorem RDs.strs : ∀ {xs : List D} {vs : List V} {l : List Str}, RDs K mg w H xs vs → allStrs xs = some l → vs = l.map V.str
  | [], _, _, h, e => by rw [show _ = [] from h]; cases e; rfl
  | d :: xs, _, l, h, e => by
    obtain ⟨v, r, rfl, h1, h2⟩ := h
    cases d with
    | str i =>
      simp only [allStrs] at e
      cases q : allStrs xs with
      | none => rw [q] at e; cases e
      | some l' =>
        rw [q] at e; cases e
        rw [show v = .str i from h1, h2.strs q]
        rfl
    | _ => cases e

theorem gd_some {α : Type} {c : Prop} [Decidable c] {m : Option α} {a : α} (h : gd c m = some a) : c ∧ m = some a := by
  unfold gd at h
  split at h
  · exact ⟨by assumption, h⟩
  · cases h
/-- what is only looked at: a list may be one that changes -/
def RB (K : PySem.W.Frag) (mg : Str → Option Value) (w : Wd) (H : Hp) : D → V → Prop
  | .lst ds, v => ∃ a vs, v = .ref a ∧ H a = some (.lst vs) ∧ RDs K mg w H ds vs
  | d, v => RD K mg w H d v
theorem RD.b {d : D} {v : V} (h : RD K mg w H d v) : RB K mg w H d v := by
  cases d with
  | lst ds => obtain ⟨a, vs, e, q, r⟩ := h; exact ⟨a, vs, e, q.1, r⟩
  | _ => exact h
theorem OpOk.get {o : Opd} {v : V} {d : D} (r : Rel K mg w st σ H) (h : OpOk K mg w st σ H o v) (e : o.get st = some d) : RB K mg w H d v := by
  cases o with
  | slot k =>
    simp only [Opd.get, Sl.at] at e
    split at e
    · rename_i xs hs
      cases e
      have hk : st.env[k]? = some (.own xs) := by
        rw [List.getD_eq_getElem?_getD] at hs
        cases q : st.env[k]? with
        | none => rw [q] at hs; simp at hs
        | some u => rw [q] at hs; simp at hs; rw [hs]
      obtain ⟨a, vs, e1, e2, _, _, e5⟩ := r.own k xs hk
      have h' : σ[k]? = some (some v) := h
      rw [e1] at h'; cases h'
      exact ⟨a, vs, rfl, e2, e5⟩
    · cases e
  | val d' =>
    cases d' with
    | ref n =>
      simp only [Opd.get] at e
      cases q : st.sto[n]? with
      | none => rw [q] at e; cases e
      | some xs =>
        rw [q] at e
        obtain ⟨c0, e⟩ := gd_some e
        cases e
        obtain ⟨a, vs, e1, e2, _, e4⟩ := r.cell n xs q c0
        obtain ⟨a', h1, h2⟩ := (show ∃ a, v = .ref a ∧ w.io[n]? = some a from h)
        rw [e1] at h2; cases h2
        exact ⟨a, vs, h1, e2, e4⟩
    | _ => cases e; exact RD.b h

theorem KT.sq {a : Addr} {vs : List V} (h : KT K a vs) : SqT K H a vs := .inr h
theorem sqT_of {a : Addr} {vs : List V} (h : (H a = some (.tup vs) ∧ ¬ w.W a) ∨ KT K a vs) : SqT K H a vs := h.elim (fun q => SqT.of q.1) KT.sq
theorem sqS_of {a : Addr} {vs : List V} (h : (∃ o, H a = some (.frz o (.lst vs)) ∧ ¬ w.W a) ∨ KL K a vs) : SqL K H a vs := h.elim (fun ⟨o, q⟩ => .inl (.inr ⟨o, q.1⟩)) .inr

/-! ### data, for == and repr -/
mutual
theorem RB.dpD : ∀ {d : D} {v : V} {p : PyData}, RD K mg w H d v → toP d = some p → Dp K H v p
  | .non, v, _, h, e => by cases e; rw [show v = .non from h]; exact .non
  | .bl b, v, _, h, e => by cases e; rw [show v = .bl b from h]; exact .bl b
  | .int b, v, _, h, e => by cases e; rw [show v = .int b from h]; exact .int b
  | .str b, v, _, h, e => by cases e; rw [show v = .str b from h]; exact .str b
  | .tup ds, v, p, h, e => by
    obtain ⟨a, vs, rfl, q, r⟩ := h
    simp only [toP] at e
    cases q2 : toPs ds with
    | none => rw [q2] at e; cases e
    | some l => rw [q2] at e; cases e; exact .tup (sqT_of q) (RDs.dp r q2)
  | .lst ds, v, p, h, e => by
    obtain ⟨a, vs, rfl, q, r⟩ := h
    simp only [toP] at e
    cases q2 : toPs ds with
    | none => rw [q2] at e; cases e
    | some l => rw [q2] at e; cases e; exact .lst (SqL.of q.1) (RDs.dp r q2)
  | .ref _, _, _, _, e => by cases e
  | .fn _, _, _, _, e => by cases e
  | .ty _, _, _, _, e => by cases e
  | .scr _, _, _, _, e => by cases e
theorem RDs.dp : ∀ {ds : List D} {vs : List V} {ps : List PyData}, RDs K mg w H ds vs → toPs ds = some ps → DpAll K H vs ps
  | [], vs, _, h, e => by cases e; rw [show vs = [] from h]; exact .nil
  | d :: ds, vs, _, h, e => by
    obtain ⟨v, r, rfl, h1, h2⟩ := h
    simp only [toPs] at e
    cases q1 : toP d with
    | none => rw [q1] at e; cases e
    | some p =>
      rw [q1] at e
      cases q2 : toPs ds with
      | none => rw [q2] at e; cases e
      | some l => rw [q2] at e; cases e; exact .cons (RB.dpD h1 q1) (RDs.dp h2 q2)
end
theorem RB.dp {d : D} {v : V} {p : PyData} (h : RB K mg w H d v) (e : toP d = some p) : Dp K H v p := by
  cases d with
  | lst ds =>
    obtain ⟨a, vs, rfl, q, r⟩ := h
    simp only [toP] at e
    cases q2 : toPs ds with
    | none => rw [q2] at e; cases e
    | some l => rw [q2] at e; cases e; exact .lst (SqL.of q) (RDs.dp r q2)
  | _ => exact RB.dpD h e

/-! ### two-place operators -/
/-- f on values is g on data -/
def BinSem (X : Cx) (f : Value → Value → Sem Value) (g : D → D → Option Rv) : Prop := ∃ r : R2, OpR X f r ∧
  ∀ (w : Wd) (st : St) (σ : L2.St) (H : Hp) (d1 d2 : D) (v1 v2 : V) (rv : Rv) (Q : VK), Rel X.K X.mg w st σ H → RD X.K X.mg w H d1 v1 → RD X.K X.mg w H d2 v2 → g d1 d2 = some rv → Done X.K X.mg σ H w st rv Q → r v1 v2 H Q
theorem BinSem.no {f : Value → Value → Sem Value} {g : D → D → Option Rv} (h : ∀ x y, g x y = none) : BinSem X f g :=
  ⟨fun _ _ _ _ => False, fun _ _ _ _ _ _ _ _ _ _ _ _ z => z.elim, fun _ _ _ _ _ _ _ _ _ _ _ _ _ e => by rw [h] at e; cases e⟩
theorem binSem_add : BinSem X (binaryOp .Add) addOp := by
  refine ⟨_, op_add.or (op_add_str.or (op_cat.or op_catA)), ?_⟩
  intro w st σ H d1 d2 v1 v2 rv Q rel h1 h2 e q
  unfold addOp at e
  split at e
  all_goals first | (cases e; done) | skip
  · rename_i i j
    cases e
    exact .inl ⟨i, j, h1, h2, q.val rel rfl⟩
  · rename_i i j
    obtain ⟨c, e⟩ := gd_some e
    cases e
    exact .inr (.inl ⟨i, j, h1, h2, by rw [← szL_eq]; exact c, q.val rel rfl⟩)
  · rename_i xs ys
    obtain ⟨c, e⟩ := gd_some e
    cases e
    obtain ⟨a, vs, rfl, ⟨ha, _⟩, r1⟩ := h1
    obtain ⟨b, us, rfl, ⟨hb, _⟩, r2⟩ := h2
    exact .inr (.inr (.inl ⟨a, b, vs, us, rfl, rfl, ha, hb, by rw [r1.length, r2.length, ← szL_eq]; exact c, fun p hp => q.lst rel hp (r1.append r2)⟩))
  · rename_i xs ys
    obtain ⟨c2, e⟩ := gd_some e
    cases e
    obtain ⟨a, vs, rfl, ha, r1⟩ := h1
    obtain ⟨b, us, rfl, hb, r2⟩ := h2
    refine .inr (.inr (.inr ⟨a, b, vs, us, rfl, rfl, sqT_of ha, sqT_of hb, by rw [r1.length, r2.length, ← szL_eq]; exact c2, fun z => ?_, fun _ z => ?_, fun _ z p hp => q.tup rel hp (r1.append r2)⟩))
    · have e1 : xs = [] := by
        have := r1.length
        rw [z] at this
        exact List.eq_nil_of_length_eq_zero this.symm
      rw [e1, List.nil_append] at q
      exact q.val rel ⟨b, us, rfl, hb, r2⟩
    · have e2 : ys = [] := by
        have := r2.length
        rw [z] at this
        exact List.eq_nil_of_length_eq_zero this.symm
      rw [e2, List.append_nil] at q
      exact q.val rel ⟨a, vs, rfl, ha, r1⟩
theorem binSem_sub : BinSem X (binaryOp .Sub) subOp := by
  refine ⟨_, op_sub, ?_⟩
  intro w st σ H d1 d2 v1 v2 rv Q rel h1 h2 e q
  unfold subOp at e
  split at e
  all_goals first | (cases e; done) | skip
  rename_i i j
  cases e
  exact ⟨i, j, h1, h2, q.val rel rfl⟩
theorem RDs.repl {xs : List D} {vs : List V} (h : RDs K mg w H xs vs) : ∀ k : Nat, RDs K mg w H (List.replicate k xs).flatten (List.replicate k vs).flatten
  | 0 => rfl
  | k + 1 => by
    rw [List.replicate_succ, List.replicate_succ, List.flatten_cons, List.flatten_cons]
    exact h.append (h.repl k)
/-- t * 1 -/
def rRep1 (K : PySem.W.Frag) : R2 := fun x y H Q => ∃ l xs, x = .ref l ∧ y = .int 1 ∧ SqT K H l xs ∧ Q (.ref l) H
theorem tuple_mul1 (l : Addr) (items : Array Value) (n : Nat) (sl : Array (Option Value)) (od : Option Addr) (u : Tok) :
    Meets (Builtin.«tuple.__mul__» ⟨[.ref l, .int 1 u], []⟩) (fun _ R s => s.heap.get? l = some { cls := .type "tuple", dict := od, data := .seq items n, slots := sl } ∧ R (.ok (.ret (Value.ref l))) s) :=
  .of_wp fun prog w A R s h => by
    obtain ⟨hp, g, d, tk, os⟩ := s
    obtain ⟨hl, h⟩ := h
    have f1 := AutoSeq1.idx_int
    wp_walk using wpAny_loadPart' hl
    repeat (first
      | (refine wpAny_ite_false (decide_eq_false (by decide)) ?_; wp_walk using wpAny_loadPart' hl)
      | (refine wpAny_ite_true (decide_eq_true (by simp)) ?_; wp_walk using wpAny_loadPart' hl))
    exact ⟨_, rfl, h⟩
theorem op_rep1 : OpR X (binaryOp .Mult) (rRep1 X.K) := by
  intro pins s σ H x y v u Q I rx ry h
  obtain ⟨l, xs, rfl, rfl, hT, q⟩ := h
  cases rx
  obtain ⟨t, rfl⟩ := ry
  obtain ⟨its, r, ⟨⟨cls, dd, data, sl⟩, ho, hc, n, hd⟩, hs⟩ := I.tuple hT
  simp only at hc hd
  subst hc hd
  refine wpAny_binaryOp_repeat_ref (T := "tuple") (U := "int") (by decide) ⟨_, ho, rfl⟩ (fun s' => typeIs_int s' 1 t) noFill_tuple_mul F.fills_int_mul F.slot_int_rmul repeat_tuple F.slot_int_index.lookup ?_
  exact call_meets F.slot_int_rmul (typeIs_int s 1 t) F.entry_int_rmul (F.args_int_rmul_2 _ _) (int_rmul_tuple 1 t l its.toArray n dd sl)
    ⟨ho, rfl, ⟨_, ho, rfl⟩, call_meets F.slot_tuple_mul ⟨_, ho, rfl⟩ F.entry_tuple_mul (F.args_tuple_mul_2 _ _) (tuple_mul1 l its.toArray n sl dd t) ⟨ho, .ref l, H, I, rfl, q⟩⟩
theorem binSem_mul : BinSem X (binaryOp .Mult) mulOp := by
  refine ⟨_, op_mulW.or (op_rep.or (op_repT.or op_rep1)), ?_⟩
  intro w st σ H d1 d2 v1 v2 rv Q rel h1 h2 e q
  unfold mulOp at e
  split at e
  all_goals first | (cases e; done) | skip
  · rename_i i j
    obtain ⟨c, e⟩ := gd_some e
    cases e
    exact .inl ⟨i, j, h1, h2, (show CMulW i j from of_decide_eq_true (p := i.natAbs.log2 + j.natAbs.log2 < 1000000) c), q.val rel rfl⟩
  · rename_i xs k
    obtain ⟨⟨c1, c2, c3⟩, e⟩ := gd_some e
    cases e
    obtain ⟨a, vs, rfl, ⟨ha, _⟩, r1⟩ := h1
    exact .inr (.inl ⟨a, k, vs, rfl, h2, ha, c1, c2, by rw [r1.length, ← szL_eq]; exact c3, fun p hp => q.lst rel hp (r1.repl _)⟩)
  · rename_i xs k
    obtain ⟨⟨c0, c1, c2, c3⟩, e⟩ := gd_some e
    cases e
    obtain ⟨a, vs, rfl, ha, r1⟩ := h1
    have hl := r1.length
    by_cases k1 : k = 1
    · subst k1
      refine .inr (.inr (.inr ⟨a, vs, rfl, h2, sqT_of ha, ?_⟩))
      have e1 : (List.replicate (1 : Int).toNat xs).flatten = xs := by simp
      rw [e1] at q
      exact q.val rel ⟨a, vs, rfl, ha, r1⟩
    · refine .inr (.inr (.inl ⟨a, k, vs, rfl, h2, sqT_of ha, fun z => ?_, by omega, c2, by rw [hl]; exact c3, fun p hp => q.tup rel hp (r1.repl _)⟩))
      rw [z] at hl
      exact c0 (List.eq_nil_of_length_eq_zero hl.symm)
theorem binSem_div : BinSem X (binaryOp .FloorDiv) divOp := by
  refine ⟨_, op_fdivW.or op_fdivN, ?_⟩
  intro w st σ H d1 d2 v1 v2 rv Q rel h1 h2 e q
  unfold divOp at e
  split at e
  all_goals first | (cases e; done) | skip
  rename_i i j
  obtain ⟨c, e⟩ := gd_some e
  cases e
  unfold divOk at c
  simp only [Bool.or_eq_true, Bool.and_eq_true, decide_eq_true_eq] at c
  by_cases h : 0 < j
  · rcases c with c | c
    · exact .inl ⟨i, j, h1, h2, ⟨h, c.2⟩, by rw [fdiv, if_pos h] at q; exact q.val rel rfl⟩
    · refine .inr ⟨i, j, h1, h2, ⟨c.1, c.2⟩, ?_⟩
      rw [fdiv, if_pos h, ← Int.fdiv_eq_ediv_of_nonneg i (by omega)] at q
      exact q.val rel rfl
  · rcases c with c | c
    · exact absurd c.1 h
    · exact .inr ⟨i, j, h1, h2, ⟨c.1, c.2⟩, by rw [fdiv, if_neg h] at q; exact q.val rel rfl⟩
theorem binSem_mod : BinSem X (binaryOp .Mod) modOp := by
  refine ⟨_, op_modN, ?_⟩
  intro w st σ H d1 d2 v1 v2 rv Q rel h1 h2 e q
  unfold modOp at e
  split at e
  all_goals first | (cases e; done) | skip
  rename_i i j
  obtain ⟨c, e⟩ := gd_some e
  cases e
  refine ⟨i, j, h1, h2, c, ?_⟩
  by_cases h : 0 < j
  · rw [fmod, if_pos h, ← Int.fmod_eq_emod_of_nonneg i (by omega)] at q
    exact q.val rel rfl
  · rw [fmod, if_neg h] at q
    exact q.val rel rfl
theorem binSem_pow : BinSem X (binaryOp .Pow) powOp := by
  refine ⟨_, op_pow, ?_⟩
  intro w st σ H d1 d2 v1 v2 rv Q rel h1 h2 e q
  unfold powOp at e
  split at e
  all_goals first | (cases e; done) | skip
  rename_i i j
  obtain ⟨c, e⟩ := gd_some e
  cases e
  exact ⟨i, j, h1, h2, c, q.val rel rfl⟩
theorem binSem (o : Operator) : BinSem X (binaryOp o) (binOp o) := by
  cases o with
  | Add => exact binSem_add
  | Sub => exact binSem_sub
  | Mult => exact binSem_mul
  | FloorDiv => exact binSem_div
  | Mod => exact binSem_mod
  | Pow => exact binSem_pow
  | _ => exact BinSem.no fun x y => rfl

/-! ### comparisons -/
def CmpSem (X : Cx) (f : Value → Value → Sem Value) (g : D → D → Option Bool) : Prop := ∃ r : R2, OpR X f r ∧
  ∀ (w : Wd) (H : Hp) (d1 d2 : D) (v1 v2 : V) (b : Bool) (Q : VK), RD X.K X.mg w H d1 v1 → RB X.K X.mg w H d2 v2 → g d1 d2 = some b → Q (.bl b) H → r v1 v2 H Q
theorem CmpSem.no {f : Value → Value → Sem Value} {g : D → D → Option Bool} (h : ∀ x y, g x y = none) : CmpSem X f g :=
  ⟨fun _ _ _ _ => False, fun _ _ _ _ _ _ _ _ _ _ _ _ z => z.elim, fun _ _ _ _ _ _ _ _ _ _ e => by rw [h] at e; cases e⟩
theorem eqP_some {x y : D} {b : Bool} (h : eqP x y = some b) : ∃ p q, toP x = some p ∧ toP y = some q ∧ SeqAt.shaped p = true ∧ SeqAt.shaped q = true ∧ b = PyData.eqv p q := by
  unfold eqP at h
  cases h1 : toP x with
  | none => rw [h1] at h; cases h
  | some p =>
    rw [h1] at h
    cases h2 : toP y with
    | none => rw [h2] at h; cases h
    | some q =>
      rw [h2] at h
      obtain ⟨⟨c1, c2⟩, e⟩ := gd_some h
      cases e
      exact ⟨p, q, rfl, rfl, c1, c2, rfl⟩
theorem flat_rel {d : D} {v : V} (h : RD K mg w H d v) (f : flat d = true) : flatV v = true := by
  cases d <;> first | (rw [show v = _ from h]; rfl) | cases f
theorem flats_rel : ∀ {ds : List D} {vs : List V}, RDs K mg w H ds vs → ds.all flat = true → vs.all flatV = true
  | [], _, h, _ => by rw [show _ = [] from h]; rfl
  | d :: ds, _, h, f => by
    obtain ⟨v, r, rfl, h1, h2⟩ := h
    rw [List.all_cons, Bool.and_eq_true] at f ⊢
    exact ⟨flat_rel h1 f.1, flats_rel h2 f.2⟩
theorem eqF_rel {d e : D} {v u : V} (h : RD K mg w H d v) (q : RD K mg w H e u) (f : flat d = true) (g : flat e = true) : eqV v u = eqF d e := by
  cases d <;> first
    | (cases f; done)
    | (cases e <;> first
      | (cases g; done)
      | (simp only [RD] at h q; subst h; subst q; rfl))
theorem inV_rel {d : D} {v : V} (h : RD K mg w H d v) (f : flat d = true) : ∀ {ds : List D} {vs : List V}, RDs K mg w H ds vs → ds.all flat = true → inV v vs = ds.any fun y => eqF y d
  | [], _, q, _ => by rw [show _ = [] from q]; rfl
  | e :: ds, _, q, g => by
    obtain ⟨u, r, rfl, h1, h2⟩ := q
    rw [List.all_cons, Bool.and_eq_true] at g
    show (eqV u v || inV v r) = (eqF e d || ds.any _)
    rw [eqF_rel h1 h g.1 f, inV_rel h f h2 g.2]
theorem cmpSem_in : CmpSem X (compareOp .In) inOp := by
  refine ⟨_, op_in_seq.or op_in_str, ?_⟩
  intro w H d1 d2 v1 v2 b Q h1 h2 e q
  unfold inOp at e
  split at e
  all_goals first | (cases e; done) | skip
  · obtain ⟨⟨c1, c2⟩, e⟩ := gd_some e
    cases e
    obtain ⟨a, vs, rfl, ha, r⟩ := h2
    exact .inl ⟨a, vs, rfl, .inl (SqL.of ha), flat_rel h1 c1, flats_rel r c2, by rw [inV_rel h1 c1 r c2]; exact q⟩
  · obtain ⟨⟨c1, c2⟩, e⟩ := gd_some e
    cases e
    obtain ⟨a, vs, rfl, ha, r⟩ := h2
    exact .inl ⟨a, vs, rfl, .inr (sqT_of ha), flat_rel h1 c1, flats_rel r c2, by rw [inV_rel h1 c1 r c2]; exact q⟩
  · cases e
    exact .inr ⟨_, _, h1, h2, q⟩
theorem cmpSem_notIn : CmpSem X (compareOp .NotIn) (fun x y => (inOp x y).map fun b => !b) := by
  refine ⟨_, op_notIn_seq.or op_notIn_str, ?_⟩
  intro w H d1 d2 v1 v2 b Q h1 h2 e q
  have e : (inOp d1 d2).map (fun b => !b) = some b := e
  cases e0 : inOp d1 d2 with
  | none => rw [e0] at e; cases e
  | some c =>
  rw [e0] at e
  cases e
  unfold inOp at e0
  split at e0
  all_goals first | (cases e0; done) | skip
  · obtain ⟨⟨c1, c2⟩, e⟩ := gd_some e0
    cases e
    obtain ⟨a, vs, rfl, ha, r⟩ := h2
    exact .inl ⟨a, vs, rfl, .inl (SqL.of ha), flat_rel h1 c1, flats_rel r c2, by rw [inV_rel h1 c1 r c2]; exact q⟩
  · obtain ⟨⟨c1, c2⟩, e⟩ := gd_some e0
    cases e
    obtain ⟨a, vs, rfl, ha, r⟩ := h2
    exact .inl ⟨a, vs, rfl, .inr (sqT_of ha), flat_rel h1 c1, flats_rel r c2, by rw [inV_rel h1 c1 r c2]; exact q⟩
  · cases e0
    exact .inr ⟨_, _, h1, h2, q⟩
theorem eqO_some {x y : D} {b : Bool} (h : eqO x y = some b) : (∃ i j, x = .str i ∧ y = .str j ∧ b = (i == j)) ∨ ∃ p q, toP x = some p ∧ toP y = some q ∧ SeqAt.shaped p = true ∧ SeqAt.shaped q = true ∧ b = PyData.eqv p q := by
  unfold eqO at h
  split at h
  · rename_i c e
    cases h
    unfold strEq at e
    split at e
    · cases e; exact .inl ⟨_, _, rfl, rfl, rfl⟩
    · cases e
  · exact .inr (eqP_some h)
theorem cmpSem_eq (hu : X.A.units + 64 < cLine) : CmpSem X (compareOp .Eq) eqO := by
  refine ⟨_, (op_eqD hu).or op_eq, ?_⟩
  intro w H d1 d2 v1 v2 b Q h1 h2 e q
  rcases eqO_some e with ⟨i, j, rfl, rfl, rfl⟩ | ⟨p, p', e1, e2, c1, c2, rfl⟩
  · rw [show v1 = _ from h1, show v2 = _ from h2]
    exact .inr ⟨rfl, by rw [dec_str]; exact q⟩
  · exact .inl ⟨p, p', RB.dpD h1 e1, h2.dp e2, c1, c2, q⟩
theorem cmpSem_ne (hu : X.A.units + 64 < cLine) : CmpSem X (compareOp .NotEq) (fun x y => (eqO x y).map fun b => !b) := by
  refine ⟨_, (op_neD hu).or op_ne, ?_⟩
  intro w H d1 d2 v1 v2 b Q h1 h2 e q
  have e : (eqO d1 d2).map (fun b => !b) = some b := e
  cases e0 : eqO d1 d2 with
  | none => rw [e0] at e; cases e
  | some c =>
  rw [e0] at e
  cases e
  rcases eqO_some e0 with ⟨i, j, rfl, rfl, rfl⟩ | ⟨p, p', e1, e2, c1, c2, rfl⟩
  · rw [show v1 = _ from h1, show v2 = _ from h2]
    refine .inr ⟨rfl, ?_⟩
    have : (!decide (V.str i = V.str j)) = !(i == j) := by rw [dec_str]
    simpa using (this ▸ q : Q (.bl (!decide (V.str i = V.str j))) H)
  · exact .inl ⟨p, p', RB.dpD h1 e1, h2.dp e2, c1, c2, q⟩
theorem cmpSem_lt : CmpSem X (compareOp .Lt) ltOp := by
  refine ⟨_, op_lt, ?_⟩
  intro w H d1 d2 v1 v2 b Q h1 h2 e q
  unfold ltOp at e
  split at e
  · cases e; exact ⟨_, _, h1, h2, q⟩
  · cases e
theorem cmpSem_le : CmpSem X (compareOp .LtE) leOp := by
  refine ⟨_, op_le, ?_⟩
  intro w H d1 d2 v1 v2 b Q h1 h2 e q
  unfold leOp at e
  split at e
  · cases e; exact ⟨_, _, h1, h2, q⟩
  · cases e
theorem cmpSem_gt : CmpSem X (compareOp .Gt) gtOp := by
  refine ⟨_, op_gt, ?_⟩
  intro w H d1 d2 v1 v2 b Q h1 h2 e q
  unfold gtOp at e
  split at e
  · cases e; exact ⟨_, _, h1, h2, q⟩
  · cases e
theorem cmpSem_ge : CmpSem X (compareOp .GtE) geOp := by
  refine ⟨_, op_ge, ?_⟩
  intro w H d1 d2 v1 v2 b Q h1 h2 e q
  unfold geOp at e
  split at e
  · cases e; exact ⟨_, _, h1, h2, q⟩
  · cases e
theorem cmpSem_is : CmpSem X (compareOp .Is) isOp := by
  refine ⟨_, op_isBl, ?_⟩
  intro w H d1 d2 v1 v2 b Q h1 h2 e q
  unfold isOp at e
  split at e
  · rename_i a c
    cases e
    exact ⟨a, c, h1, h2, by cases a <;> cases c <;> exact q⟩
  · cases e
theorem cmpSem_isNot : CmpSem X (compareOp .IsNot) (fun x y => (isOp x y).map fun b => !b) := by
  refine ⟨_, op_notBl, ?_⟩
  intro w H d1 d2 v1 v2 b Q h1 h2 e q
  have e : (isOp d1 d2).map (fun b => !b) = some b := e
  unfold isOp at e
  split at e
  · cases e
    rename_i a c
    exact ⟨a, c, h1, h2, by cases a <;> cases c <;> exact q⟩
  · cases e
theorem cmpSem (o : CmpOp) (hu : X.A.units + 64 < cLine) : CmpSem X (compareOp o) (cmpOp o) := by
  cases o with
  | Eq => exact cmpSem_eq hu
  | NotEq => exact cmpSem_ne hu
  | Lt => exact cmpSem_lt
  | LtE => exact cmpSem_le
  | Gt => exact cmpSem_gt
  | GtE => exact cmpSem_ge
  | In => exact cmpSem_in
  | Is => exact cmpSem_is
  | IsNot => exact cmpSem_isNot
  | NotIn => exact cmpSem_notIn
/-- the answer alone, whatever the comparison asks behind -/
theorem R2.imp {r : R2} (h : ∀ x y H Q, r x y H Q → r x y H Q) : True := trivial

/-! ### truth -/
theorem truV_of {d : D} {v : V} {b : Bool} (h : RD K mg w H d v) (e : truth d = some b) : TruV K v H b := by
  unfold truth at e
  split at e
  all_goals first | (cases e; done) | skip
  · cases e; rw [show v = _ from h]; rfl
  · cases e; rw [show v = _ from h]; rfl
  · cases e; rw [show v = _ from h]; rfl
  · rename_i xs
    cases e
    obtain ⟨a, vs, rfl, ha, r⟩ := h
    refine .inl ⟨vs, SqL.of ha.1, ?_⟩
    have := r.length
    cases vs <;> cases xs <;> first | rfl | (simp at this)
  · rename_i xs
    cases e
    obtain ⟨a, vs, rfl, ha, r⟩ := h
    refine .inr (.inl ⟨vs, sqT_of ha, ?_⟩)
    have := r.length
    cases vs <;> cases xs <;> first | rfl | (simp at this)
  · rename_i x
    obtain ⟨c, e⟩ := gd_some e
    cases e
    rw [show v = _ from h]
    refine ⟨by rw [← szL_eq]; exact c, ?_⟩
    cases x.length with
    | zero => rfl
    | succ n => rfl

/-! ### indices, slices -/
theorem ixOf_eq (n : Nat) (i : Int) : ixOf n i = ixN n i := rfl
theorem atD_eq {α : Type} (xs : List α) (i : Int) : atD xs i = atI xs i := rfl
theorem RDs.atI {ds : List D} {vs : List V} {i : Int} {d : D} (h : RDs K mg w H ds vs) (e : atD ds i = some d) : ∃ v, L2.atI vs i = some v ∧ RD K mg w H d v := by
  unfold atD at e
  rw [ixOf_eq, ← h.length] at e
  unfold L2.atI
  cases q : ixN vs.length i with
  | none => rw [q] at e; cases e
  | some j =>
    rw [q] at e
    exact h.get e
theorem idx_ok {d k x : D} {o i : V} {Q : VK} (h : RB K mg w H d o) (hk : RD K mg w H k i) (e : idxOp d k = some x) (q : ∀ v, RD K mg w H x v → Q v H) : rIx K o i H Q := by
  unfold idxOp at e
  split at e
  all_goals first | (cases e; done) | skip
  · obtain ⟨a, vs, rfl, ha, r⟩ := h
    obtain ⟨v, h1, h2⟩ := r.atI e
    exact .inl ⟨a, vs, _, v, rfl, hk, SqL.of ha, h1, q v h2⟩
  · obtain ⟨a, vs, rfl, ha, r⟩ := h
    obtain ⟨v, h1, h2⟩ := r.atI e
    exact .inr (.inl ⟨a, vs, _, v, rfl, hk, sqT_of ha, h1, q v h2⟩)
  · rename_i z j
    obtain ⟨c, e⟩ := gd_some e
    cases e1 : atD z.cps.toList j with
    | none => rw [e1] at e; cases e
    | some ch =>
      rw [e1] at e
      cases e
      exact .inr (.inr ⟨z, j, ch, h, hk, by rw [← szL_eq]; exact c, e1, q _ rfl⟩)
theorem sIx_eq (n d : Nat) (o : Option Int) : sIx n d o = HT.sIx n d o := by
  cases o <;> rfl
theorem cut_eq (xs : List V) (lo hi : Option Int) : cut xs lo hi = cutV xs lo hi := by
  unfold cut cutV
  simp only [sIx_eq]
theorem RDs.cut {ds : List D} {vs : List V} (h : RDs K mg w H ds vs) (lo hi : Option Int) : RDs K mg w H (Pi.cut ds lo hi) (cutV vs lo hi) := by
  rw [← cut_eq]
  unfold Pi.cut
  rw [h.length]
  exact (h.drop _).take _
end
end Pi

set_option Elab.async false
set_option linter.all false
set_option maxRecDepth 100000
set_option maxHeartbeats 1000000
/-! PiOps2: slices, built-in calls, methods. -/
namespace Pi
open PySem L2
section
variable {K : PySem.W.Frag} {mg : Str → Option Value} {w w' w1 w2 : Wd} {H H' H1 H2 : Hp} {st st' st1 st2 : St} {σ σ' : L2.St} {X : Cx}

theorem slc_sem : ∃ r : V → Option Int → Option Int → Hp → VK → Prop, SlR X r ∧ ∀ (w : Wd) (st : St) (σ : L2.St) (H : Hp) (d : D) (v : V) (lo hi : Option Int) (rv : Rv) (Q : VK),
    Rel X.K X.mg w st σ H → RB X.K X.mg w H d v → slcOp d lo hi = some rv → Done X.K X.mg σ H w st rv Q → r v lo hi H Q := by
  refine ⟨_, sl_list.or (sl_tupA.or sl_str), ?_⟩
  intro w st σ H d v lo hi rv Q rel h e q
  unfold slcOp at e
  split at e
  all_goals first | (cases e; done) | skip
  · cases e
    obtain ⟨a, vs, rfl, ha, r⟩ := h
    exact .inl ⟨a, vs, rfl, SqL.of ha, fun p hp => q.lst rel hp (r.cut lo hi)⟩
  · cases e
    obtain ⟨a, vs, rfl, ha, r⟩ := h
    exact .inl ⟨a, vs, rfl, sqS_of ha, fun p hp => q.lst rel hp (r.cut lo hi)⟩
  · rename_i xs
    cases e
    obtain ⟨a, vs, rfl, ha, r⟩ := h
    refine .inr (.inl ⟨a, vs, rfl, sqT_of ha, fun z => ?_, fun _ p hp => q.tup rel hp (r.cut lo hi)⟩)
    rw [r.length, ← sIx_eq, ← sIx_eq] at z
    have ec : cut xs lo hi = xs := by
      unfold cut
      rw [z.1, z.2]
      simp
    rw [ec] at q
    exact q.val rel ⟨a, vs, rfl, ha, r⟩
  · rename_i z
    obtain ⟨c, e⟩ := gd_some e
    cases e
    refine .inr (.inr ⟨z, h, by rw [← szL_eq]; exact c, ?_⟩)
    refine q.val rel ?_
    show V.str (cutS z lo hi) = V.str _
    unfold cutS cut
    simp only [sIx_eq]
    rfl

/-! ### built-in calls -/
def CallSem (X : Cx) (f : Value) (g : List D → Option Rv) : Prop := ∃ r : List V → Hp → VK → Prop, CallR X f r ∧
  ∀ (w : Wd) (st : St) (σ : L2.St) (H : Hp) (ds : List D) (vs : List V) (rv : Rv) (Q : VK), Rel X.K X.mg w st σ H → RDs X.K X.mg w H ds vs → g ds = some rv → Done X.K X.mg σ H w st rv Q → r vs H Q
theorem RDs.one {d : D} {vs : List V} (h : RDs K mg w H [d] vs) : ∃ v, vs = [v] ∧ RD K mg w H d v := by
  obtain ⟨v, r, rfl, h1, h2⟩ := h
  exact ⟨v, by rw [show r = [] from h2], h1⟩
theorem RDs.two {d e : D} {vs : List V} (h : RDs K mg w H [d, e] vs) : ∃ v u, vs = [v, u] ∧ RD K mg w H d v ∧ RD K mg w H e u := by
  obtain ⟨v, r, rfl, h1, h2⟩ := h
  obtain ⟨u, rfl, h3⟩ := h2.one
  exact ⟨v, u, rfl, h1, h3⟩
theorem len_ok {d : D} {v : V} {rv : Rv} {Q : VK} (rel : Rel K mg w st σ H) (h : RB K mg w H d v) (e : lenOp [d] = some rv) (q : Done K mg σ H w st rv Q) : ∃ x n, [v] = [x] ∧ LenV K x H n ∧ Q (.int n) H := by
  unfold lenOp at e
  split at e
  all_goals first | (cases e; done) | skip
  all_goals rename_i h0
  · cases h0
    obtain ⟨c, e⟩ := gd_some e
    cases e
    rw [show v = _ from h]
    exact ⟨_, _, rfl, ⟨by rw [← szL_eq]; exact c, rfl⟩, q.val rel rfl⟩
  · cases h0
    cases e
    obtain ⟨a, vs, rfl, ha, r⟩ := h
    exact ⟨_, _, rfl, .inr ⟨vs, sqT_of ha, rfl⟩, by rw [r.length]; exact q.val rel rfl⟩
  · cases h0
    cases e
    obtain ⟨a, vs, rfl, ha, r⟩ := h
    exact ⟨_, _, rfl, .inl ⟨vs, SqL.of ha, rfl⟩, by rw [r.length]; exact q.val rel rfl⟩
  · cases h0
    cases e
    obtain ⟨a, vs, rfl, ha, r⟩ := h
    exact ⟨_, _, rfl, .inl ⟨vs, sqS_of ha, rfl⟩, by rw [r.length]; exact q.val rel rfl⟩
theorem callSem_len : CallSem X (.builtin "len") lenOp := by
  refine ⟨_, call_len, ?_⟩
  intro w st σ H ds vs rv Q rel h e q
  have e0 := e
  unfold lenOp at e0
  split at e0
  all_goals first | (cases e0; done) | skip
  all_goals (obtain ⟨v, rfl, h1⟩ := h.one; exact len_ok rel h1.b e q)
theorem callSem_abs : CallSem X (.builtin "abs") absOp := by
  refine ⟨_, call_abs, ?_⟩
  intro w st σ H ds vs rv Q rel h e q
  unfold absOp at e
  split at e
  · cases e
    obtain ⟨v, rfl, h1⟩ := h.one
    exact ⟨_, by rw [show v = _ from h1], q.val rel rfl⟩
  · cases e
theorem callSem_int : CallSem X (.type "int") intOp := by
  refine ⟨_, call_int1, ?_⟩
  intro w st σ H ds vs rv Q rel h e q
  unfold intOp at e
  split at e
  · cases e
    obtain ⟨v, rfl, h1⟩ := h.one
    exact .inl ⟨_, by rw [show v = _ from h1], q.val rel rfl⟩
  · cases e
    obtain ⟨v, rfl, h1⟩ := h.one
    exact .inr ⟨_, by rw [show v = _ from h1], q.val rel rfl⟩
  · cases e
theorem callSem_str : CallSem X (.type "str") strOp := by
  refine ⟨_, call_str_int.or SkE.call_str_str, ?_⟩
  intro w st σ H ds vs rv Q rel h e q
  unfold strOp at e
  split at e
  · obtain ⟨c, e⟩ := gd_some e
    cases e
    obtain ⟨v, rfl, h1⟩ := h.one
    exact .inl ⟨_, by rw [show v = _ from h1], c, q.val rel rfl⟩
  · cases e
    obtain ⟨v, rfl, h1⟩ := h.one
    exact .inr ⟨_, by rw [show v = _ from h1], q.val rel rfl⟩
  · cases e
theorem maxI_spec : ∀ (r : List Int) (m : Int), maxI m r ∈ m :: r ∧ ∀ y ∈ m :: r, y ≤ maxI m r
  | [], m => ⟨List.mem_singleton.mpr rfl, fun y h => by rw [List.mem_singleton.mp h]; exact Int.le_refl _⟩
  | x :: r, m => by
    obtain ⟨h1, h2⟩ := maxI_spec r (if x > m then x else m)
    unfold maxI
    refine ⟨?_, fun y hy => ?_⟩
    · rcases List.mem_cons.mp h1 with e | e
      · rw [e]; split <;> simp
      · exact List.mem_cons_of_mem _ (List.mem_cons_of_mem _ e)
    · have h3 := h2 _ List.mem_cons_self
      have h4 : m ≤ (if x > m then x else m) ∧ x ≤ (if x > m then x else m) := by split <;> omega
      rcases List.mem_cons.mp hy with rfl | hy
      · exact Int.le_trans h4.1 h3
      · rcases List.mem_cons.mp hy with rfl | hy
        · exact Int.le_trans h4.2 h3
        · exact h2 y (List.mem_cons_of_mem _ hy)
theorem minI_spec : ∀ (r : List Int) (m : Int), minI m r ∈ m :: r ∧ ∀ y ∈ m :: r, minI m r ≤ y
  | [], m => ⟨List.mem_singleton.mpr rfl, fun y h => by rw [List.mem_singleton.mp h]; exact Int.le_refl _⟩
  | x :: r, m => by
    obtain ⟨h1, h2⟩ := minI_spec r (if x < m then x else m)
    unfold minI
    refine ⟨?_, fun y hy => ?_⟩
    · rcases List.mem_cons.mp h1 with e | e
      · rw [e]; split <;> simp
      · exact List.mem_cons_of_mem _ (List.mem_cons_of_mem _ e)
    · have h3 := h2 _ List.mem_cons_self
      have h4 : (if x < m then x else m) ≤ m ∧ (if x < m then x else m) ≤ x := by split <;> omega
      rcases List.mem_cons.mp hy with rfl | hy
      · exact Int.le_trans h3 h4.1
      · rcases List.mem_cons.mp hy with rfl | hy
        · exact Int.le_trans h3 h4.2
        · exact h2 y (List.mem_cons_of_mem _ hy)
theorem callSem_max (hc : X.calm = true) : CallSem X (.builtin "max") maxOp := by
  refine ⟨_, (call_max2 hc).or (cr_max hc), ?_⟩
  intro w st σ H ds vs rv Q rel h e q
  unfold maxOp at e
  split at e
  · cases e
    obtain ⟨v, u, rfl, h1, h2⟩ := h.two
    exact .inl ⟨_, _, by rw [show v = _ from h1, show u = _ from h2], q.val rel rfl⟩
  · rename_i xs
    split at e
    · rename_i m r e1
      cases e
      obtain ⟨v, rfl, a, vs, rfl, ha, r1⟩ := h.one
      obtain ⟨rfl, e2⟩ := r1.ints e1
      refine .inr ⟨a, m :: r, rfl, SqL.of ha.1, by simp, fun m' h1 h2 => ?_⟩
      obtain ⟨h3, h4⟩ := maxI_spec r m
      have : m' = maxI m r := Int.le_antisymm (h4 _ h1) (h2 _ h3)
      rw [this]
      exact q.val rel rfl
    · cases e
  · cases e
theorem callSem_min (hc : X.calm = true) : CallSem X (.builtin "min") minOp := by
  refine ⟨_, (call_min2 hc).or (cr_min hc), ?_⟩
  intro w st σ H ds vs rv Q rel h e q
  unfold minOp at e
  split at e
  · cases e
    obtain ⟨v, u, rfl, h1, h2⟩ := h.two
    exact .inl ⟨_, _, by rw [show v = _ from h1, show u = _ from h2], q.val rel rfl⟩
  · rename_i xs
    split at e
    · rename_i m r e1
      cases e
      obtain ⟨v, rfl, a, vs, rfl, ha, r1⟩ := h.one
      obtain ⟨rfl, e2⟩ := r1.ints e1
      refine .inr ⟨a, m :: r, rfl, SqL.of ha.1, by simp, fun m' h1 h2 => ?_⟩
      obtain ⟨h3, h4⟩ := minI_spec r m
      have : m' = minI m r := Int.le_antisymm (h2 _ h3) (h4 _ h1)
      rw [this]
      exact q.val rel rfl
    · cases e
  · cases e
theorem map_some {α β : Type} {m : Option α} {f : α → β} {b : β} (h : m.map f = some b) : ∃ a, m = some a ∧ f a = b := by
  cases m with
  | none => cases h
  | some a => exact ⟨a, rfl, Option.some.inj h⟩
theorem callSem_sum (hc : X.calm = true) : CallSem X (.builtin "sum") sumOp := by
  refine ⟨_, cr_sum hc, ?_⟩
  intro w st σ H ds vs rv Q rel h e q
  unfold sumOp at e
  split at e
  · obtain ⟨l, e1, rfl⟩ := map_some e
    obtain ⟨v, rfl, a, vs, rfl, ha, r1⟩ := h.one
    obtain ⟨rfl, e2⟩ := r1.ints e1
    exact ⟨a, l, rfl, SqL.of ha.1, q.val rel rfl⟩
  · cases e
theorem callSem_any (hc : X.calm = true) : CallSem X (.builtin "any") anyOp := by
  refine ⟨_, cr_any hc, ?_⟩
  intro w st σ H ds vs rv Q rel h e q
  unfold anyOp at e
  split at e
  · obtain ⟨l, e1, rfl⟩ := map_some e
    obtain ⟨v, rfl, a, vs, rfl, ha, r1⟩ := h.one
    obtain rfl := r1.bls e1
    exact ⟨a, l, rfl, SqL.of ha.1, q.val rel rfl⟩
  · cases e
theorem callSem_all (hc : X.calm = true) : CallSem X (.builtin "all") allOp := by
  refine ⟨_, cr_all hc, ?_⟩
  intro w st σ H ds vs rv Q rel h e q
  unfold allOp at e
  split at e
  · obtain ⟨l, e1, rfl⟩ := map_some e
    obtain ⟨v, rfl, a, vs, rfl, ha, r1⟩ := h.one
    obtain rfl := r1.bls e1
    exact ⟨a, l, rfl, SqL.of ha.1, q.val rel rfl⟩
  · cases e
theorem insI_perm (x : Int) : ∀ l : List Int, (insI x l).Perm (x :: l)
  | [] => .refl _
  | y :: r => by
    unfold insI
    split
    · exact .refl _
    · exact ((insI_perm x r).cons y).trans (.swap x y r)
theorem sortI_perm : ∀ l : List Int, (sortI l).Perm l
  | [] => .refl _
  | x :: r => (insI_perm x _).trans ((sortI_perm r).cons x)
theorem insI_up (x : Int) : ∀ l : List Int, l.Pairwise (· ≤ ·) → (insI x l).Pairwise (· ≤ ·)
  | [], _ => List.pairwise_singleton _ _
  | y :: r, h => by
    obtain ⟨h1, h2⟩ := List.pairwise_cons.mp h
    unfold insI
    split
    · rename_i hxy
      refine List.pairwise_cons.mpr ⟨fun z hz => ?_, h⟩
      rcases List.mem_cons.mp hz with rfl | hz
      · exact hxy
      · exact Int.le_trans hxy (h1 z hz)
    · rename_i hxy
      refine List.pairwise_cons.mpr ⟨fun z hz => ?_, insI_up x r h2⟩
      rcases List.mem_cons.mp ((insI_perm x r).mem_iff.mp hz) with rfl | hz
      · omega
      · exact h1 z hz
theorem sortI_up : ∀ l : List Int, (sortI l).Pairwise (· ≤ ·)
  | [] => .nil
  | x :: r => insI_up x _ (sortI_up r)
theorem sortI_the {l l' : List Int} (p : l'.Perm l) (u : l'.Pairwise (· ≤ ·)) : l' = sortI l :=
  (p.trans (sortI_perm l).symm).eq_of_pairwise (fun a b _ _ h1 h2 => Int.le_antisymm h1 h2) u (sortI_up l)
theorem RDs.ofInts : ∀ (l : List Int), RDs K mg w H (l.map D.int) (l.map V.int)
  | [] => rfl
  | i :: l => ⟨_, _, rfl, rfl, RDs.ofInts l⟩
theorem callSem_sorted : CallSem X (.builtin "sorted") sortedOp := by
  refine ⟨_, cr_sortedI, ?_⟩
  intro w st σ H ds vs rv Q rel h e q
  unfold sortedOp at e
  split at e
  · obtain ⟨l, e1, rfl⟩ := map_some e
    obtain ⟨v, rfl, a, vs, rfl, ha, r1⟩ := h.one
    obtain ⟨rfl, e2⟩ := r1.ints e1
    refine ⟨a, l, rfl, SqL.of ha.1, fun ns' p h1 h2 hp => ?_⟩
    rw [sortI_the h1 h2]
    exact q.lst rel hp (RDs.ofInts _)
  · cases e
theorem callSem_list : CallSem X (.type "list") listOp := by
  refine ⟨_, call_list_of, ?_⟩
  intro w st σ H ds vs rv Q rel h e q
  unfold listOp at e
  split at e
  · cases e
    obtain ⟨v, rfl, a, vs, rfl, ha, r1⟩ := h.one
    exact ⟨a, vs, rfl, .inl (SqL.of ha.1), fun p hp => q.lst rel hp r1⟩
  · cases e
    obtain ⟨v, rfl, a, vs, rfl, ha, r1⟩ := h.one
    exact ⟨a, vs, rfl, .inr (sqT_of ha), fun p hp => q.lst rel hp r1⟩
  · cases e
theorem callSem_tuple : CallSem X (.type "tuple") tupleOp := by
  refine ⟨_, call_tuple_of, ?_⟩
  intro w st σ H ds vs rv Q rel h e q
  unfold tupleOp at e
  split at e
  · cases e
    obtain ⟨v, rfl, a, vs, rfl, ha, r1⟩ := h.one
    exact ⟨a, vs, rfl, .inl ⟨SqL.of ha.1, fun p hp => q.tup rel hp r1⟩⟩
  · cases e
    obtain ⟨v, rfl, a, vs, rfl, ha, r1⟩ := h.one
    exact ⟨a, vs, rfl, .inr ⟨sqT_of ha, q.val rel ⟨a, vs, rfl, ha, r1⟩⟩⟩
  · cases e
/-- repr of data -/
def rRepr (K : PySem.W.Frag) : List V → Hp → VK → Prop := fun vs H Q => ∃ (v : V) (p : PyData), vs = [v] ∧ Dp K H v p ∧ p.showable = true ∧ p.shown.length ≤ sizeLine ∧ p.depth ≤ 64 ∧ Q (.str p.shown) H
theorem dp_nodict : ∀ (p : PyData) (v : V), Dp K H v p → p.hasDict = false
  | .none, _, _ => by simp [PyData.hasDict]
  | .bool _, _, _ => by simp [PyData.hasDict]
  | .int _, _, _ => by simp [PyData.hasDict]
  | .str _, _, _ => by simp [PyData.hasDict]
  | .list ds, _, h => by
    cases h with
    | lst _ a => simp only [PyData.hasDict]; exact dps_nodict ds _ a
  | .tuple ds, _, h => by
    cases h with
    | tup _ a => simp only [PyData.hasDict]; exact dps_nodict ds _ a
  | .dict _, _, h => nomatch h
where dps_nodict : ∀ (ps : List PyData) (vs : List V), DpAll K H vs ps → PyData.hasDictAll ps = false
  | [], _, _ => by simp [PyData.hasDictAll]
  | p :: ps, _, h => by
    cases h with
    | cons h1 h2 => simp only [PyData.hasDictAll, dp_nodict p _ h1, dps_nodict ps _ h2, Bool.or_self]
theorem call_reprD (hg : X.A.guards = some []) (hu : X.A.units + 66 < cLine) : CallR X (.builtin "repr") (rRepr X.K) := by
  intro pins s σ H xs us Q I r h
  obtain ⟨v, p, rfl, hd, h1, h2, h3, q⟩ := h
  obtain ⟨u, rfl, ru⟩ := vals1 r
  cases v with
  | non =>
    cases hd
    rw [show u = Value.none from ru]
    exact PySem.P.repr_of_none ⟨.str _, H, I.tok _, ⟨_, rfl⟩, q⟩
  | bl b =>
    cases hd
    rw [show u = Value.bool b from ru]
    exact PySem.P.repr_of_bool ⟨.str _, H, I.tok _, ⟨_, rfl⟩, q⟩
  | int i =>
    cases hd
    obtain ⟨t, rfl⟩ := (show ∃ t, u = Value.int i t from ru)
    exact PySem.P.repr_of_int (by simpa [PyData.showable] using h1) ⟨.str _, H, I.tok _, ⟨_, rfl⟩, q⟩
  | str z =>
    cases hd
    obtain ⟨t, rfl⟩ := (show ∃ t, u = Value.str z t from ru)
    exact PySem.P.repr_of_str ⟨.str _, H, I.tok _, ⟨_, rfl⟩, q⟩ h2
  | ref a =>
    obtain ⟨as, rd⟩ := Dp.reads I p _ _ hd ru
    rw [show u = Value.ref a from ru] at rd ⊢
    exact repr_of_reads' rd h1 (PyData.noDict_hsm (dp_nodict p _ hd)) hg (by omega) (fun _ _ e => e) (fun h' u tk hk => ⟨.str _, H, I.kept hk, ⟨_, rfl⟩, q⟩) h2
  | _ => cases hd
theorem callSem_repr (hg : X.A.guards = some []) (hu : X.A.units + 66 < cLine) : CallSem X (.builtin "repr") reprOp := by
  refine ⟨_, call_reprD hg hu, ?_⟩
  intro w st σ H ds vs rv Q rel h e q
  unfold reprOp at e
  split at e
  · rename_i d
    cases e1 : toP d with
    | none => rw [e1] at e; cases e
    | some p =>
      rw [e1] at e
      obtain ⟨⟨c1, c2, c3⟩, e⟩ := gd_some e
      cases e
      obtain ⟨v, rfl, h1⟩ := h.one
      exact ⟨v, p, rfl, RB.dpD h1 e1, c1, by rw [← szL_eq]; exact c2, c3, q.val rel rfl⟩
  · cases e
end
end Pi

set_option Elab.async false
set_option linter.all false
set_option maxRecDepth 100000
set_option maxHeartbeats 1000000
/-! PiSum: sum(lists, start). -/
namespace Pi
open PySem PySem.Spec PyProof.Rows L2
theorem args_sumL (a b : Value) : argsOk "sum" ⟨[a, b], []⟩ := by unfold argsOk; kernel_rfl
theorem ls_nostr : isSubtype (.type "list") (.type "str") = pure false := by rw [isSubtype_type]; kernel_rfl
theorem ls_nobytes : isSubtype (.type "list") (.type "bytes") = pure false := by rw [isSubtype_type]; kernel_rfl
theorem ls_noba : isSubtype (.type "list") (.type "bytearray") = pure false := by rw [isSubtype_type]; kernel_rfl
/-- what lies from the i-th on -/
def tailL {α : Type} (parts : Nat → List α) (i : Nat) : Nat → List α
  | 0 => []
  | k + 1 => parts i ++ tailL parts (i + 1) k
theorem tailL_shift {α : Type} {f : Nat → List α} : ∀ {k i : Nat}, tailL f (i + 1) k = tailL (fun j => f (j + 1)) i k
  | 0, _ => rfl
  | k + 1, i => by
    show f (i + 1) ++ tailL f (i + 1 + 1) k = f (i + 1) ++ tailL (fun j => f (j + 1)) (i + 1) k
    rw [tailL_shift]
theorem tailL_vals {f : Nat → List V} {g : Nat → List Value} : ∀ {k i : Nat}, (∀ j, i ≤ j → j < i + k → Vals (f j) (g j)) → Vals (tailL f i k) (tailL g i k)
  | 0, _, _ => .nil
  | k + 1, i, h => (h i (Nat.le_refl _) (by omega)).append (tailL_vals fun j h1 h2 => h j (by omega) (by omega))
section
variable {prog : Program} {w : World} {A : Around} {I : Addr} {fp wr : List Addr} {n : Nat} {P : Nat → Value → Prop} {St : Nat → Heap → Prop}
theorem ls_loop {R : Result → Shared → Prop} (W : Walks prog w A.in1 I fp wr n P St) (ex : ∀ i h, St i h → ∀ b ∈ wr, h.get? b ≠ none) (parts : Nat → List Value) {S : Addr} (hS : S ∉ fp) :
    ∀ (k i : Nat) (s : Shared) (r : Addr) (acc : List Value) (c nr : Nat), n - i = k → i ≤ n → St i s.heap → s.heap.get? S = some { cls := .type "list", dict := none, data := .seq #[.ref r] c, slots := #[] } → IsL s.heap r acc.toArray nr → r ∉ wr → r ≠ S →
    (∀ j v, P j v → ∃ b m, v = .ref b ∧ b ∉ wr ∧ b ≠ S ∧ IsL s.heap b (parts j).toArray m) → acc.length + (tailL parts i k).length ≤ sizeLine →
    (∀ h' tk r' m, (∀ b o, b ∉ wr → b ≠ S → s.heap.get? b = some o → h'.get? b = some o) → (r' = r ∨ s.heap.get? r' = none) → IsL h' r' (acc ++ tailL parts i k).toArray m → R (.ok (.ret (.ref r'))) { s with heap := h', toks := tk }) →
    codeAny (model prog w) A (.builtin "sum.loop" ⟨[.ref I, .ref S, rawInt 2, rawInt 0], []⟩) R s := by
  have offW : S ∉ wr := fun h => hS (W.sub _ h)
  intro k
  induction k with
  | zero =>
    intro i s r acc c nr hk hi st gS gr nw nS hp hz fin
    obtain rfl : i = n := by omega
    refine codeAny_builtin F.entry_sum_loop ?_
    rw [Around.under_plainId F.plain_sum_loop _]
    show wpAny _ A.in1 (seqItems? (.ref S) >>= _) _ _ s
    refine wpAny_bind (wpAny_seqItems gS rfl ?_)
    show wpAny _ A.in1 (tryCatch (pyNext (.ref I)) _ >>= _) _ _ s
    refine wpAny_bind (wpAny_tryCatch (W.done s _ _ st fun h' tk keep => wpAny_pure ?_))
    refine fin h' tk r nr (fun b o hb _ e => keep b o hb e) (.inl rfl) ?_
    show IsL h' r (acc ++ []).toArray nr
    rw [List.append_nil]
    exact keep r _ nw gr
  | succ k ih =>
    intro i s r acc c nr hk hi st gS gr nw nS hp hz fin
    have lt : i < n := by omega
    refine codeAny_builtin F.entry_sum_loop ?_
    rw [Around.under_plainId F.plain_sum_loop _]
    show wpAny _ A.in1 (seqItems? (.ref S) >>= _) _ _ s
    refine wpAny_bind (wpAny_seqItems gS rfl ?_)
    show wpAny _ A.in1 (tryCatch (pyNext (.ref I)) _ >>= _) _ _ s
    refine wpAny_bind (wpAny_tryCatch (W.item i s _ _ lt st fun v h' tk hv st' keep => ?_))
    obtain ⟨b, m, rfl, bw, bS, gb⟩ := hp i v hv
    have gS' := keep S _ offW gS
    have gr' : IsL h' r acc.toArray nr := keep r _ nw gr
    have gb' : IsL h' b (parts i).toArray m := keep b _ bw gb
    have hz2 : acc.length + ((parts i).length + (tailL parts (i + 1) k).length) ≤ sizeLine := by
      have := hz
      unfold tailL at this
      rw [List.length_append] at this
      exact this
    show wpAny _ A.in1 ((holding [Value.ref b] (binaryOp .Add (.ref r) (.ref b))).attempt >>= _) _ _ _
    refine wpAny_bind (wpAny_attempt (wpAny_holding (PySem.P.add_list gr' gb' ?_ (by rw [List.size_toArray, List.size_toArray]; omega))))
    have neS : h'.objs.size ≠ S := fun z => absurd (Heap.lt_size gS') (by rw [← z]; exact Nat.lt_irrefl _)
    have up : ∀ {x : Addr} {o : Obj}, h'.get? x = some o → (h'.push { cls := .type "list", data := .seq (acc.toArray ++ (parts i).toArray) }).get? x = some o := fun e => Heap.get?_push_of_some _ e
    have q1 := up gS'
    show wpAny _ A.in1 (updateSeq S (fun _ => #[.ref h'.objs.size]) >>= _) _ _ _
    refine wpAny_bind (wpAny_updateSeq q1 rfl ?_)
    have q2 := Heap.get?_update_self (Obj.mapSeq fun _ => #[Value.ref h'.objs.size]) q1 rfl
    refine wpAny_bind (wpAny_letGo (wpAny_bind (wpAny_updateSeq q2 rfl (wpAny_pure ⟨plainId_quiet F.plain_sum_loop _, ?_⟩))))
    obtain ⟨h2, e2⟩ : ∃ h2, h2 = (((h'.push { cls := .type "list", data := .seq (acc.toArray ++ (parts i).toArray) }).update S (Obj.mapSeq fun _ => #[Value.ref h'.objs.size])).update S (Obj.mapSeq fun _ => #[Value.ref h'.objs.size])) := ⟨_, rfl⟩
    have keep2 : ∀ {x : Addr} {o : Obj}, x ≠ S → (h'.push { cls := .type "list", data := .seq (acc.toArray ++ (parts i).toArray) }).get? x = some o → h2.get? x = some o := by
      intro x o hx e
      rw [e2]
      exact (Heap.get?_update_other _ _ (Ne.symm hx)).trans ((Heap.get?_update_other _ _ (Ne.symm hx)).trans e)
    have eq0 : acc.toArray ++ (parts i).toArray = (acc ++ parts i).toArray := by simp
    have gq : IsL h2 h'.objs.size (acc ++ parts i).toArray 0 := by
      refine keep2 neS ?_
      rw [← eq0]
      exact Heap.get?_push_size _ rfl
    have q3 : h2.get? S = some { cls := .type "list", dict := none, data := .seq #[.ref h'.objs.size] (if (#[Value.ref h'.objs.size] : Array Value).size == (#[Value.ref h'.objs.size] : Array Value).size then (if (#[Value.ref h'.objs.size] : Array Value).size == (#[Value.ref r] : Array Value).size then c else c + 1) else (if (#[Value.ref h'.objs.size] : Array Value).size == (#[Value.ref r] : Array Value).size then c else c + 1) + 1), slots := #[] } := by
      rw [e2]
      exact Heap.get?_update_self _ q2 rfl
    rw [← e2]
    have old : ∀ b o, b ∉ wr → b ≠ S → s.heap.get? b = some o → h2.get? b = some o := fun b o hb hs e => keep2 hs (up (keep b o hb e))
    have noQ : h'.get? h'.objs.size = none := by
      cases e : h'.get? h'.objs.size with
      | none => rfl
      | some o => exact absurd (Heap.lt_size e) (Nat.lt_irrefl _)
    have newQ : h'.objs.size ∉ wr := fun z => ex _ _ st' _ z noQ
    -- what is new behind the step was new ahead of it
    have back : ∀ x, x ∉ wr → x ≠ S → h'.get? x = none → s.heap.get? x = none := fun x hw hs e => by
      cases q : s.heap.get? x with
      | none => rfl
      | some o => rw [keep x o hw q] at e; cases e
    refine ih (i + 1) { s with heap := h2, toks := tk } h'.objs.size (acc ++ parts i) _ 0 (by omega) lt (W.frame _ _ _ st' fun b hb o e => keep2 (fun z => hS (z ▸ hb)) (up e)) q3 gq (fun z => ?_) neS (fun j v hv => ?_) (by rw [List.length_append]; omega) (fun h3 tk3 r3 m3 k3 d3 g3 => ?_)
    · exact newQ z
    · obtain ⟨b2, m2, e, f1, f2, f3⟩ := hp j v hv
      exact ⟨b2, m2, e, f1, f2, old b2 _ f1 f2 f3⟩
    · refine fin h3 tk3 r3 m3 (fun b o hb hs e => k3 b o hb hs (old b o hb hs e)) ?_ ?_
      · rcases d3 with rfl | d3
        · exact .inr (back _ newQ neS noQ)
        · refine .inr ?_
          have d3 : h2.get? r3 = none := d3
          by_cases hs : r3 = S
          · rw [hs, q3] at d3; cases d3
          · have d4 : h'.get? r3 = none := by
              cases q : h'.get? r3 with
              | none => rfl
              | some o => rw [keep2 hs (up q)] at d3; cases d3
            exact back _ (fun z => ex _ _ st' _ z d4) hs d4
      · show IsL h3 r3 (acc ++ (parts i ++ tailL parts (i + 1) k)).toArray m3
        rw [← List.append_assoc]
        exact g3

variable {E : Value → Shared → Prop} {s : Shared}
theorem sum_ls {l st : Addr} {its : List Value} {nl : Nat} {sacc : List Value} {ns : Nat} {Q : Value → Shared → Prop} (hh : A.handled = none) (hl : IsL s.heap l its.toArray nl) (hst : IsL s.heap st sacc.toArray ns) (parts : Nat → List Value)
    (hp : ∀ (j : Nat) v, its[j]? = some v → ∃ b m, v = .ref b ∧ IsL s.heap b (parts j).toArray m) (hz : sacc.length + (tailL parts 0 its.length).length ≤ sizeLine)
    (fin : ∀ h' tk r' m, (∀ b o, s.heap.get? b = some o → h'.get? b = some o) → (r' = st ∨ s.heap.get? r' = none) → IsL h' r' (sacc ++ tailL parts 0 its.length).toArray m → Q (.ref r') { s with heap := h', toks := tk }) :
    wpAny (model prog w) A (call (.builtin "sum") [.ref l, .ref st]) Q E s := by
  refine call_function_tree F.kind_sum F.plain_sum F.entry_sum (args_sumL _ _) ?_
  unfold Builtin.«sum»
  simp only [List.length_cons, List.length_nil]
  rw [if_neg (by decide)]
  refine wpAny_bind (wpAny_of_eq (show Builtin.Builtins.bindParams "sum" ["start"] 0 ⟨[.ref st], []⟩ = pure [some (.ref st)] from rfl) ?_)
  have ltl : l < s.heap.objs.size := Heap.lt_size hl
  refine wpAny_bind (wpAny_pyIter_list hl.isList ?_)
  obtain ⟨s2, e2⟩ : ∃ s2 : Shared, s2 = { s with heap := s.heap.push { cls := .type "list_iterator", data := .fields #[.ref l, .int 0 0] } } := ⟨_, rfl⟩
  rw [← e2]
  have up2 : ∀ {b : Addr} {o : Obj}, s.heap.get? b = some o → s2.heap.get? b = some o := fun e => by rw [e2]; exact Heap.get?_push_of_some _ e
  have sz2 : s2.heap.objs.size = s.heap.objs.size + 1 := by rw [e2]; exact Heap.size_push _ _
  have it2 : s2.heap.IsListIter s.heap.objs.size l 0 := by rw [e2]; exact ⟨_, Heap.get?_push_size _ rfl, rfl, rfl⟩
  refine wpAny_bind (wpAny_pure ?_)
  simp only [List.forIn_cons, List.forIn_nil]
  have ty : s2.TypeIs (.ref st) "list" := ⟨_, up2 hst, rfl⟩
  refine wpAny_bind (wpAny_bind (wpAny_bind (wpAny_isInstance (T := "list") (b := false) ty ls_nostr ?_)))
  simp only [Bool.false_eq_true, if_false]
  refine wpAny_pure (wpAny_bind (wpAny_bind (wpAny_isInstance (T := "list") (b := false) ty ls_nobytes ?_)))
  simp only [Bool.false_eq_true, if_false]
  refine wpAny_pure (wpAny_bind (wpAny_bind (wpAny_isInstance (T := "list") (b := false) ty ls_noba ?_)))
  simp only [Bool.false_eq_true, if_false]
  refine wpAny_pure (wpAny_pure (wpAny_bind (wpAny_newObj_type ?_)))
  have neI : l ≠ s.heap.objs.size := Nat.ne_of_lt ltl
  have W := Walks.list (prog := prog) (w := w) (A := A.in1) hh s.heap.objs.size l neI its.toArray
  have hS : s2.heap.objs.size ∉ [s.heap.objs.size, l] := by
    rw [sz2]
    intro z
    rcases List.mem_cons.mp z with z | z
    · exact absurd z (Nat.succ_ne_self _)
    · rw [← List.mem_singleton.mp z] at ltl
      exact absurd (Nat.lt_trans (Nat.lt_succ_self _) ltl) (Nat.lt_irrefl _)
  have up3 : ∀ {b : Addr} {o : Obj}, s.heap.get? b = some o → (s2.heap.push { cls := .type "list", data := .seq #[Value.ref st] }).get? b = some o := fun e => Heap.get?_push_of_some _ (up2 e)
  refine wpAny_pure ⟨plainId_quiet F.plain_sum_loop _, ls_loop (n := its.toArray.size) W (fun i h q b hb => ?_) parts hS its.toArray.size 0 _ st sacc 0 ns (Nat.sub_zero _) (Nat.zero_le _) ⟨?_, ?_⟩ (Heap.get?_push_size _ rfl) (up3 hst) ?_ ?_ (fun j v hv => ?_) ?_ (fun h' tk r' m k d g => ?_)⟩
  · rw [List.mem_singleton.mp hb]
    obtain ⟨o, e, _⟩ := q.1
    rw [e]; intro z; cases z
  · obtain ⟨o, e, c, d⟩ := it2
    exact ⟨o, Heap.get?_push_of_some _ e, c, d⟩
  · exact IsL.isList (up3 hl)
  · intro z
    have := Heap.lt_size hst
    rw [List.mem_singleton.mp z] at this
    exact absurd this (Nat.lt_irrefl _)
  · intro z
    have := Heap.lt_size hst
    rw [z, sz2] at this
    exact absurd (Nat.lt_trans (Nat.lt_succ_self _) this) (Nat.lt_irrefl _)
  · have hv : its[j]? = some v := by simpa using hv
    obtain ⟨b, m, e, gb⟩ := hp j v hv
    have lb := Heap.lt_size gb
    refine ⟨b, m, e, fun z => ?_, fun z => ?_, up3 gb⟩
    · rw [List.mem_singleton.mp z] at lb
      exact absurd lb (Nat.lt_irrefl _)
    · rw [z, sz2] at lb
      exact absurd (Nat.lt_trans (Nat.lt_succ_self _) lb) (Nat.lt_irrefl _)
  · simpa using hz
  · have fin2 := fin h' tk r' m (fun b o e => k b o (fun z => ?_) (fun z => ?_) (up3 e)) ?_ (by simpa using g)
    · rw [e2] at *
      exact fin2
    · have lb := Heap.lt_size e
      rw [List.mem_singleton.mp z] at lb
      exact absurd lb (Nat.lt_irrefl _)
    · have lb := Heap.lt_size e
      rw [z, sz2] at lb
      exact absurd (Nat.lt_trans (Nat.lt_succ_self _) lb) (Nat.lt_irrefl _)
    · refine d.imp id fun d => ?_
      cases q : s.heap.get? r' with
      | none => rfl
      | some o =>
        have d2 : (s2.heap.push { cls := .type "list", data := .seq #[Value.ref st] }).get? r' = none := d
        rw [up3 q] at d2; cases d2
end
section
variable {X : Cx} {K : PySem.W.Frag} {mg : Str → Option Value} {w w' w1 w2 : Wd} {H H' H1 H2 : Hp} {st st' st1 st2 : St} {σ σ' : L2.St}
/-- the lists as the heap has them -/
theorem flat_parts : ∀ {xss : List D} {vs : List V} {l : List D}, RDs K mg w H xss vs → flatD xss = some l → ∃ f : Nat → List V, (∀ (i : Nat) v, vs[i]? = some v → ∃ b, v = .ref b ∧ H b = some (.lst (f i)) ∧ ¬ w.W b) ∧ RDs K mg w H l (tailL f 0 vs.length)
  | [], _, l, h, e => by
    rw [show _ = [] from h]
    cases e
    exact ⟨fun _ => [], fun i v q => by simp at q, rfl⟩
  | d :: xss, _, l, h, e => by
    obtain ⟨v, vs, rfl, rd, rds⟩ := h
    cases d with
    | lst xs =>
      have e : (flatD xss).map (fun l => xs ++ l) = some l := e
      cases e1 : flatD xss with
      | none => rw [e1] at e; cases e
      | some l1 =>
        rw [e1] at e
        cases e
        obtain ⟨f, h1, h2⟩ := flat_parts rds e1
        obtain ⟨b, us, rfl, hb, r⟩ := rd
        refine ⟨fun i => match i with | 0 => us | i + 1 => f i, fun i v q => ?_, ?_⟩
        · cases i with
          | zero =>
            simp at q; subst q
            exact ⟨b, rfl, hb.1, hb.2⟩
          | succ i => exact h1 i v (by simpa using q)
        · show RDs K mg w H (xs ++ l1) (us ++ tailL _ (0 + 1) vs.length)
          rw [tailL_shift]
          exact r.append h2
    | _ => cases e
def rSumL : List V → Hp → VK → Prop := fun us H Q => ∃ (l st : Addr) (xs ys : List V) (f : Nat → List V), us = [.ref l, .ref st] ∧ H l = some (.lst xs) ∧ H st = some (.lst ys) ∧ (∀ (i : Nat) v, xs[i]? = some v → ∃ b, v = .ref b ∧ H b = some (.lst (f i))) ∧
  ys.length + (tailL f 0 xs.length).length ≤ sizeLine ∧ (H st = some (.lst (ys ++ tailL f 0 xs.length)) → Q (.ref st) H) ∧ ∀ p, H p = none → Q (.ref p) (upd H p (.lst (ys ++ tailL f 0 xs.length)))
theorem cr_sumL (hc : X.calm = true) : CallR X (.builtin "sum") rSumL := by
  intro pins s σ H us' us Q I r h
  obtain ⟨l, st, xs, ys, f, rfl, hl, hst, hf, hz, q1, q2⟩ := h
  obtain ⟨u1, u2, rfl, e1, e2⟩ : ∃ u1 u2, us = [u1, u2] ∧ RelV (.ref l) u1 ∧ RelV (.ref st) u2 := by
    cases r with
    | cons a b =>
      cases b with
      | cons c d =>
        cases d
        exact ⟨_, _, rfl, a, c⟩
  obtain rfl : u1 = Value.ref l := e1
  obtain rfl : u2 = Value.ref st := e2
  obtain ⟨_, its, n1, v1, len1, g1⟩ := I.lstM hl
  obtain ⟨_, sacc, n2, v2, len2, g2⟩ := I.lstM hst
  have each : ∀ i : Nat, ∃ ps : List Value, ∀ v, xs[i]? = some v → Vals (f i) ps ∧ ∃ b m, v = .ref b ∧ IsL s.heap b ps.toArray m := by
    intro i
    cases e : xs[i]? with
    | none => exact ⟨[], fun v q => nomatch q⟩
    | some v =>
      obtain ⟨b, rfl, hb⟩ := hf i v e
      obtain ⟨_, ps, m, vp, _, gp⟩ := I.lstM hb
      exact ⟨ps, fun v q => by cases q; exact ⟨vp, b, m, rfl, gp⟩⟩
  obtain ⟨parts, hparts⟩ := Classical.axiomOfChoice each
  have vt : Vals (tailL f 0 xs.length) (tailL parts 0 its.length) := by
    rw [← len1]
    refine tailL_vals fun j _ hj => ?_
    have hj : j < xs.length := by omega
    exact (hparts j _ (List.getElem?_eq_getElem hj)).1
  refine sum_ls (I.ok.hd hc) g1 g2 parts (fun j v hv => ?_) (by rw [← vt.length, ← len2]; exact hz) fun h' tk r' m keep d g => ?_
  · have hj := (List.getElem?_eq_some_iff.mp hv).1
    rw [← len1] at hj
    obtain ⟨_, b, m, e, gb⟩ := hparts j _ (List.getElem?_eq_getElem hj)
    obtain ⟨u, hu, ru⟩ := v1.get (List.getElem?_eq_getElem hj)
    rw [hv] at hu; cases hu
    rw [e] at ru
    obtain rfl : v = Value.ref b := ru
    exact ⟨b, m, rfl, gb⟩
  · have vall : Vals (ys ++ tailL f 0 xs.length) (sacc ++ tailL parts 0 its.length) := v2.append vt
    rcases d with rfl | d
    · have same := keep r' _ g2
      rw [show h'.get? r' = _ from g] at same
      have e0 : sacc ++ tailL parts 0 its.length = sacc := by
        have := congrArg (fun o : Option Obj => match o with | some { data := .seq a _, .. } => a.toList | _ => []) same
        simpa using this
      have e1 : tailL parts 0 its.length = [] := List.append_right_eq_self.mp e0
      have e2 : tailL f 0 xs.length = [] := by
        rw [e1] at vt
        cases vt' : tailL f 0 xs.length with
        | nil => rfl
        | cons => rw [vt'] at vt; cases vt
      exact ⟨.ref r', H, I.kept (t' := tk) keep, rfl, q1 (by rw [e2, List.append_nil]; exact hst)⟩
    · have hn : H r' = none := I.hok.gone d
      refine ⟨.ref r', upd H r' (.lst (ys ++ tailL f 0 xs.length)), I.laidN (t' := tk) keep d hn ⟨by rw [List.length_append]; exact hz, _, m, vall, g⟩, rfl, q2 r' hn⟩
theorem callSem_sumL (hc : X.calm = true) : CallSem X (.builtin "sum") sumL := by
  obtain ⟨r0, c0, s0⟩ := callSem_sum hc
  refine ⟨_, (cr_sumL hc).or c0, ?_⟩
  intro w st σ H ds vs rv Q rel h e q
  unfold sumL at e
  split at e
  · rename_i xss ys
    cases e1 : flatD xss with
    | none => rw [e1] at e; cases e
    | some l =>
      rw [e1, Option.bind_some] at e
      obtain ⟨c, e2⟩ := gd_some e
      cases e2
      obtain ⟨v, u, rfl, ⟨a1, xs, rfl, h1, r1⟩, a2, us, rfl, h2, r2⟩ := h.two
      obtain ⟨f, hf, rf⟩ := flat_parts r1 e1
      have rall := r2.append rf
      refine .inl ⟨a1, a2, xs, us, f, rfl, h1.1, h2.1, fun i v hv => ?_, ?_, fun hs => ?_, fun p hp => ?_⟩
      · obtain ⟨b, e, hb, _⟩ := hf i v hv
        exact ⟨b, e, hb⟩
      · rw [r2.length, rf.length, ← szL_eq]; exact c
      · exact q.val rel ⟨a2, _, rfl, ⟨hs, h2.2⟩, rall⟩
      · have g : Go (Mu w st σ) w H (Mu w st σ) w (upd H p (.lst (us ++ tailL f 0 xs.length))) := go_new hp
        exact q _ w _ g (rel.new hp noT_lst) ⟨p, _, rfl, ⟨upd_same, fun z => rel.alloc p z hp⟩, rall.ext rel g.e⟩
  · exact .inr (s0 w st σ H ds vs rv Q rel h e q)
end
end Pi

set_option Elab.async false
set_option linter.all false
set_option maxRecDepth 100000
set_option maxHeartbeats 1000000
/-! PiExp: expressions. -/
namespace Pi
open PySem L2

theorem peMono {X : Cx} {e : Expr} {t t' : TE} (h : PE X e t) (i : ∀ σ H Q, t' σ H Q → t σ H Q) : PE X e t' := ⟨fun pins s σ H Q I q => h.run pins s σ H Q I (i σ H Q q)⟩
theorem ptMono {X : Cx} {e : Expr} {t t' : TT} (h : PT X e t) (i : ∀ σ H Q, t' σ H Q → t σ H Q) : PT X e t' := ⟨fun pins s σ H Q I q => h.run pins s σ H Q I (i σ H Q q)⟩
theorem pwMono {X : Cx} {e : Expr} {t t' : TT} (h : PW X e t) (i : ∀ σ H Q, t' σ H Q → t σ H Q) : PW X e t' := ⟨fun wh pins s σ H Q I q => h.run wh pins s σ H Q I (i σ H Q q)⟩
theorem paMono {X : Cx} {e : List Expr} {t t' : TA} (h : PA X e t) (i : ∀ σ H Q, t' σ H Q → t σ H Q) : PA X e t' := ⟨fun p pins s σ H Q I q => h.run p pins s σ H Q I (i σ H Q q)⟩
theorem poMono {X : Cx} {e : Option Expr} {t t' : TO} (h : PO X e t) (i : ∀ σ H Q, t' σ H Q → t σ H Q) : PO X e t' := ⟨fun pins s σ H Q I q => h.run pins s σ H Q I (i σ H Q q)⟩
theorem piMono {X : Cx} {g e : Expr} {t t' : TI} (h : PI X g e t) (i : ∀ σ H Q, t' σ H Q → t σ H Q) : PI X g e t' := ⟨fun pins s σ H Q I q => h.run pins s σ H Q I (i σ H Q q)⟩
theorem psMono {X : Cx} {e : Stmt} {t t' : TS} (h : PS X e t) (i : ∀ D σ H, t' D σ H → t D σ H) : PS X e t' := ⟨fun pins s σ H D I q => h.run pins s σ H D I (i D σ H q)⟩
theorem pssMono {X : Cx} {e : List Stmt} {t t' : TS} (h : PSs X e t) (i : ∀ D σ H, t' D σ H → t D σ H) : PSs X e t' := ⟨fun pins s σ H D I q => h.run pins s σ H D I (i D σ H q)⟩
theorem pgMono {X : Cx} {e : Expr} {t t' : TG} (h : PG X e t) (i : ∀ v σ H Q, t' v σ H Q → t v σ H Q) : PG X e t' := ⟨fun pins s σ H v u Q I r q => h.run pins s σ H v u Q I r (i v σ H Q q)⟩

def tst (m : Rs Rv) : Rs Bool := bnd m fun r s => match r with
  | .val (.bl b) => okk b s
  | _ => none
abbrev RT_ : Hp → Wd → St → L2.St → Hp → Bool → Bool → Prop := fun _ _ _ _ _ r b => r = b
theorem laterT : Later RT_ := fun _ _ _ _ _ _ _ _ _ q => q
section
variable (X : Cx) (Z : WX) (C : Cfg)
def rdE (e : E) : TE := fun σ H Q => ∃ w st, Rel X.K X.mg w st σ H ∧ Post X.K X.mg Z (RV_ X.K X.mg) σ H w st (evE C e st) Q
def rdV (e : E) : TE := fun σ H Q => ∃ w st, Rel X.K X.mg w st σ H ∧ Post X.K X.mg Z (RD_ X.K X.mg) σ H w st (fz (evE C e st)) Q
def rdP (e : E) : TE := fun σ H Q => ∃ w st, Rel X.K X.mg w st σ H ∧ Post X.K X.mg Z (RP_ X.K X.mg) σ H w st (brw e (evE C e st) st) Q
def rdL (e : E) : TA := fun σ H Q => ∃ w st, Rel X.K X.mg w st σ H ∧ Post X.K X.mg Z (RL_ X.K X.mg) σ H w st (evL C e st) Q
def rdO (e : E) : TO := fun σ H Q => ∃ w st, Rel X.K X.mg w st σ H ∧ Post X.K X.mg Z RO_ σ H w st (evO C e st) Q
def rdB (e : E) : TT := fun σ H Q => ∃ w st, Rel X.K X.mg w st σ H ∧ Post X.K X.mg Z RT_ σ H w st (tst (evE C e st)) Q
end
section
variable {X : Cx} {Z : WX} {C : Cfg} {a b c : Expr} {x y z : E} {pos : Pos}
variable {K : PySem.W.Frag} {mg : Str → Option Value} {w w' w1 w2 : Wd} {H H' H1 H2 : Hp} {st st' st1 st2 : St} {σ σ' : L2.St}

theorem se_val (h : PE X a (rdE X Z C x)) : PE X a (rdV X Z C x) := peMono h fun σ H Q ⟨w, st, rel, p⟩ => ⟨w, st, rel, p.fz rel⟩
/-- a plain answer -/
theorem Post.ok {R : Hp → Wd → St → L2.St → Hp → α → β → Prop} {r : α} {v : β} {Q : β → Hp → Prop} (rel : Rel K mg w st σ H) (p : Post K mg Z R σ H w st (some (.ok r, st)) Q) (h : R H w st σ H r v) : Q v H := p v w H Go.refl rel h

theorem se_cN {j} : PE X (.Constant .none j pos) (rdE X Z C .cN) := peMono pe_non fun σ H Q ⟨w, st, rel, p⟩ => Post.ok (R := RV_ X.K X.mg) (r := .val .non) rel p rfl
theorem se_cB {b j} : PE X (.Constant (.bool b) j pos) (rdE X Z C (.cB b)) := peMono pe_bl fun σ H Q ⟨w, st, rel, p⟩ => Post.ok (R := RV_ X.K X.mg) (r := .val (.bl b)) rel p rfl
theorem se_cI {i j} : PE X (.Constant (.int i) j pos) (rdE X Z C (.cI i)) := peMono pe_int fun σ H Q ⟨w, st, rel, p⟩ => Post.ok (R := RV_ X.K X.mg) (r := .val (.int i)) rel p rfl
theorem se_cS {i j} : PE X (.Constant (.str i) j pos) (rdE X Z C (.cS i)) := peMono pe_str fun σ H Q ⟨w, st, rel, p⟩ => Post.ok (R := RV_ X.K X.mg) (r := .val (.str i)) rel p rfl

/-- a list that a name held alone is shared from here on -/
theorem freeze {k : Nat} {xs : List D} (rel : Rel K mg w st σ H) (h : st.env[k]? = some (.own xs)) :
    ∃ a, σ[k]? = some (some (.ref a)) ∧ Go (Mu w st σ) w H (Mu (w.sub a) { st with env := st.env.set k (.val (.lst xs)) } σ) (w.sub a) H ∧
      Rel K mg (w.sub a) { st with env := st.env.set k (.val (.lst xs)) } σ H ∧ RD K mg (w.sub a) H (.lst xs) (.ref a) := by
  obtain ⟨a, vs, h1, h2, h3, h4, h5⟩ := rel.own k xs h
  have hk : k < st.env.length := (List.getElem?_eq_some_iff.mp h).1
  have oldOwn : ∀ {i : Nat} {b : Addr}, OwnAt { st with env := st.env.set k (.val (.lst xs)) } σ i b → OwnAt st σ i b ∧ i ≠ k := by
    rintro i b ⟨ys, e1, e2⟩
    by_cases hi : i = k
    · subst hi
      rw [List.getElem?_set_self hk] at e1; cases e1
    · rw [List.getElem?_set_ne (Ne.symm hi)] at e1
      exact ⟨⟨ys, e1, e2⟩, hi⟩
  have own0 : OwnAt st σ k a := ⟨xs, h, h1⟩
  have mu0 : Mu w st σ a := .inr ⟨k, own0⟩
  have rd : RDs K mg (w.sub a) H xs vs := RDs.mono (M := fun _ => False) ext_sub (fun _ z => z.elim) _ _ h5
  have rda : RD K mg (w.sub a) H (.lst xs) (.ref a) := ⟨a, vs, rfl, ⟨h2, fun z => z.2 rfl⟩, rd⟩
  refine ⟨a, h1, ⟨fun _ _ e _ => e, fun _ e => e, fun _ e => .inl e.1, fun b hb => ?_, fun b hb n => ⟨hb, fun e => n (e ▸ mu0)⟩, List.prefix_refl _⟩, ⟨?_, fun i d e => ?_, fun i ys e => ?_, fun i j b e1 e2 => ?_, fun n ys e c => ?_, fun n ys x e c => ?_, rel.stray, rel.slen, rel.nd, fun b hb => rel.alloc b hb.1⟩, rda⟩
  · rcases hb with hb | ⟨i, hb⟩
    · exact .inl (.inl hb)
    · exact .inl (.inr ⟨i, (oldOwn hb).1⟩)
  · show σ.length = (st.env.set k _).length
    rw [List.length_set]; exact rel.len
  · have e : (st.env.set k (.val (.lst xs)))[i]? = some (.val d) := e
    by_cases hi : i = k
    · subst hi
      rw [List.getElem?_set_self hk] at e; cases e
      exact ⟨_, h1, rda⟩
    · rw [List.getElem?_set_ne (Ne.symm hi)] at e
      obtain ⟨v, e1, e2⟩ := rel.val i d e
      exact ⟨v, e1, RD.mono (M := fun _ => False) ext_sub (fun _ z => z.elim) _ _ e2⟩
  · have e : (st.env.set k (.val (.lst xs)))[i]? = some (.own ys) := e
    have hi : i ≠ k := by
      rintro rfl
      rw [List.getElem?_set_self hk] at e; cases e
    rw [List.getElem?_set_ne (Ne.symm hi)] at e
    obtain ⟨b, us, e1, e2, e3, e4, e5⟩ := rel.own i ys e
    refine ⟨b, us, e1, e2, ⟨e3, ?_⟩, e4, RDs.mono (M := fun _ => False) ext_sub (fun _ z => z.elim) _ _ e5⟩
    rintro rfl
    exact hi (rel.inj i k b ⟨ys, e, e1⟩ own0)
  · exact rel.inj i j b (oldOwn e1).1 (oldOwn e2).1
  · obtain ⟨b, us, e1, e2, e3, e4⟩ := rel.cell n ys e c
    refine ⟨b, us, e1, e2, ⟨e3, ?_⟩, RDs.mono (M := fun _ => False) ext_sub (fun _ z => z.elim) _ _ e4⟩
    rintro rfl
    exact h4 (List.mem_of_getElem? e1)
  · obtain ⟨b, e1, e2, e3⟩ := rel.tab n ys x e c
    refine ⟨b, e1, ⟨e2, ?_⟩, e3⟩
    rintro rfl
    exact h4 (List.mem_of_getElem? e1)
theorem at_some {env : List Sl} {k : Nat} {s : Sl} (h : Sl.at env k = s) (n : s ≠ .no) : env[k]? = some s := by
  unfold Sl.at at h
  rw [List.getD_eq_getElem?_getD] at h
  cases q : env[k]? with
  | none => rw [q] at h; exact absurd h.symm n
  | some u => rw [q] at h; rw [← h]; rfl
theorem se_loc {i : Nat} (h : PE X a (tVar i)) : PE X a (rdE X Z C (.loc i)) := peMono h fun σ H Q ⟨w, st, rel, p⟩ => by
  have p : Post X.K X.mg Z (RV_ X.K X.mg) σ H w st (match Sl.at st.env i with
    | .no => none
    | .val d => okk (.val d) st
    | .own xs => okk (.val (.lst xs)) { st with env := st.env.set i (.val (.lst xs)) }) Q := p
  cases e : Sl.at st.env i with
  | no => rw [e] at p; exact p.elim
  | val d =>
    rw [e] at p
    obtain ⟨v, h1, h2⟩ := rel.val i d (at_some e (by intro z; cases z))
    exact ⟨v, h1, Post.ok (R := RV_ X.K X.mg) (r := .val d) rel p h2⟩
  | own xs =>
    rw [e] at p
    obtain ⟨b, h1, g, r', rd⟩ := freeze rel (at_some e (by intro z; cases z))
    exact ⟨.ref b, h1, p _ _ _ g r' rd⟩
theorem se_brw (h : PE X a (rdE X Z C x)) (hv : ∀ k, x = .loc k → PE X a (tVar k)) : PE X a (rdP X Z C x) := by
  have go : ∀ σ H Q, (∃ w st, Rel X.K X.mg w st σ H ∧ Post X.K X.mg Z (RP_ X.K X.mg) σ H w st (bnd (evE C x st) fun r s => okk (.val r.d) s) Q) → rdV X Z C x σ H Q := by
    rintro σ H Q ⟨w, st, rel, p⟩
    refine ⟨w, st, rel, ?_⟩
    rcases q : evE C x st with _ | ⟨r | r, s1⟩
    · rw [q] at p; exact p
    · rw [q] at p; exact p
    · rw [q] at p; exact fun v w' H' g r' o => p v w' H' g r' ⟨o, fun k z => nomatch z⟩
  have hV := se_val h
  refine ⟨fun pins s σ H Q I q => ?_⟩
  obtain ⟨w, st, rel, p⟩ := q
  cases x with
  | loc k =>
    have p : Post X.K X.mg Z (RP_ X.K X.mg) σ H w st (match Sl.at st.env k with
      | .own _ => okk (.slot k) st
      | _ => bnd (evE C (.loc k) st) fun r s => okk (.val r.d) s) Q := p
    cases e : Sl.at st.env k with
    | no => rw [e] at p; exact hV.run pins s σ H Q I (go σ H Q ⟨w, st, rel, p⟩)
    | val d => rw [e] at p; exact hV.run pins s σ H Q I (go σ H Q ⟨w, st, rel, p⟩)
    | own xs =>
      rw [e] at p
      obtain ⟨b, vs, h1, _⟩ := rel.own k xs (at_some e (by intro z; cases z))
      exact (hv k rfl).run pins s σ H Q I ⟨_, h1, Post.ok (R := RP_ X.K X.mg) (r := .slot k) rel p ⟨h1, fun k' e' => by cases e'; exact ⟨xs, at_some e (by intro z; cases z)⟩⟩⟩
  | _ => exact hV.run pins s σ H Q I (go σ H Q ⟨w, st, rel, p⟩)

theorem se_bin {o : Operator} (ha : PE X a (rdE X Z C x)) (hb : PE X b (rdE X Z C y)) : PE X (.BinOp a o b pos) (rdE X Z C (.bin o x y)) := by
  obtain ⟨r, ho, hs⟩ := binSem (X := X) o
  refine peMono (pe_op ho (se_val ha) (se_val hb)) ?_
  rintro σ H Q ⟨w, st, rel, p⟩
  refine ⟨w, st, rel, (Post.seq (R := RD_ X.K X.mg) rel laterV p).imp ?_⟩
  rintro v H1 ⟨w1, st1, d1, rel1, rd1, g1, p1⟩
  refine ⟨w1, st1, rel1, (Post.seq (R := RD_ X.K X.mg) rel1 laterV p1).imp ?_⟩
  rintro u H2 ⟨w2, st2, d2, rel2, rd2, g2, p2⟩
  cases e : binOp o d1 d2 with
  | none => rw [e] at p2; exact p2.elim
  | some rv => rw [e] at p2; exact hs w2 st2 σ H2 d1 d2 v u rv Q rel2 (rd1.ext rel1 g2.e) rd2 e p2
theorem se_neg (ha : PE X a (rdE X Z C x)) : PE X (.UnaryOp .USub a pos) (rdE X Z C (.neg x)) := by
  refine peMono (pe_un un_neg (se_val ha)) ?_
  rintro σ H Q ⟨w, st, rel, p⟩
  refine ⟨w, st, rel, (Post.seq (R := RD_ X.K X.mg) rel laterV p).imp ?_⟩
  rintro v H1 ⟨w1, st1, d1, rel1, rd1, g1, p1⟩
  cases d1 with
  | int i => exact ⟨i, rd1, Post.ok (R := RV_ X.K X.mg) (r := .val (.int (-i))) rel1 p1 rfl⟩
  | _ => exact p1.elim
theorem rdB_rdE {σ : L2.St} {H : Hp} {Q : Bool → Hp → Prop} (h : rdB X Z C x σ H Q) : rdE X Z C x σ H fun v H' => ∃ k, v = .bl k ∧ Q k H' := by
  obtain ⟨w, st, rel, p⟩ := h
  refine ⟨w, st, rel, ?_⟩
  generalize evE C x st = m at p ⊢
  rcases m with _ | ⟨r | r, s1⟩
  · exact p
  · exact p
  · intro v w' H' g rel' rv
    cases r with
    | new xs => exact p.elim
    | val d =>
      cases d with
      | bl b => exact ⟨b, rv, p b w' H' g rel' rfl⟩
      | _ => exact p.elim
theorem se_cmp {o : CmpOp} (hu : X.A.units + 64 < cLine) (ha : PE X a (rdE X Z C x)) (hb : PE X b (rdP X Z C y)) (hm : behindInMarks o b = false) : PE X (.Compare a [o] [b] pos) (rdE X Z C (.cmp o x y)) ∧ PT X (.Compare a [o] [b] pos) (rdB X Z C (.cmp o x y)) := by
  obtain ⟨r, ho, hs⟩ := cmpSem (X := X) o hu
  have key : ∀ σ H (Q : VK), rdE X Z C (.cmp o x y) σ H Q → tOp r (rdV X Z C x) (rdP X Z C y) σ H Q := by
    rintro σ H Q ⟨w, st, rel, p⟩
    refine ⟨w, st, rel, (Post.seq (R := RD_ X.K X.mg) rel laterV p).imp ?_⟩
    rintro v H1 ⟨w1, st1, d1, rel1, rd1, g1, p1⟩
    refine ⟨w1, st1, rel1, (Post.seq (R := RP_ X.K X.mg) rel1 laterV p1).imp ?_⟩
    rintro u H2 ⟨w2, st2, d2, rel2, rd2, g2, p2⟩
    cases e1 : d2.get st2 with
    | none => rw [e1] at p2; exact p2.elim
    | some d2' =>
      rw [e1] at p2
      cases e : cmpOp o d1 d2' with
      | none => rw [Option.bind_some, e] at p2; exact p2.elim
      | some b =>
        rw [Option.bind_some, e] at p2
        exact hs w2 H2 d1 d2' v u b _ (rd1.ext rel1 g2.e) (OpOk.get rel2 rd2.1 e1) e (Post.ok (R := RV_ X.K X.mg) (r := .val (.bl b)) rel2 p2 rfl)
  exact ⟨peMono (pe_cmpR ho (se_val ha) hb hm) key, ptMono (pt_cmpR ho (se_val ha) hb hm) fun σ H Q q => key σ H _ (rdB_rdE q)⟩
theorem se_cmp2 {o o' : CmpOp} (hu : X.A.units + 64 < cLine) (ha : PE X a (rdE X Z C x)) (hb : PE X b (rdE X Z C y)) (hc : PE X c (rdE X Z C z)) (hm : lastMarks [o, o'] [b, c] = false) :
    PE X (.Compare a [o, o'] [b, c] pos) (rdE X Z C (.cmp2 o o' x y z)) ∧ PT X (.Compare a [o, o'] [b, c] pos) (rdB X Z C (.cmp2 o o' x y z)) := by
  obtain ⟨r, ho, hs⟩ := cmpSem (X := X) o hu
  obtain ⟨r', ho', hs'⟩ := cmpSem (X := X) o' hu
  have key : ∀ σ H (Q : VK), rdE X Z C (.cmp2 o o' x y z) σ H Q → tChain r r' (rdV X Z C x) (rdV X Z C y) (rdV X Z C z) σ H Q := by
    rintro σ H Q ⟨w, st, rel, p⟩
    refine ⟨w, st, rel, (Post.seq (R := RD_ X.K X.mg) rel laterV p).imp ?_⟩
    rintro v H1 ⟨w1, st1, d1, rel1, rd1, g1, p1⟩
    refine ⟨w1, st1, rel1, (Post.seq (R := RD_ X.K X.mg) rel1 laterV p1).imp ?_⟩
    rintro u H2 ⟨w2, st2, d2, rel2, rd2, g2, p2⟩
    cases e : cmpOp o d1 d2 with
    | none => rw [e] at p2; exact p2.elim
    | some b =>
      rw [e] at p2
      refine hs w2 H2 d1 d2 v u b _ (rd1.ext rel1 g2.e) rd2.b e ⟨b, rfl, ?_⟩
      cases b with
      | false => exact iteF (Post.ok (R := RV_ X.K X.mg) (r := .val (.bl false)) rel2 p2 rfl)
      | true =>
        refine iteT ⟨w2, st2, rel2, (Post.seq (R := RD_ X.K X.mg) rel2 laterV p2).imp ?_⟩
        rintro v3 H3 ⟨w3, st3, d3, rel3, rd3, g3, p3⟩
        cases e3 : cmpOp o' d2 d3 with
        | none => rw [e3] at p3; exact p3.elim
        | some b3 =>
          rw [e3] at p3
          exact hs' w3 H3 d2 d3 u v3 b3 _ (rd2.ext rel2 g3.e) rd3.b e3 (Post.ok (R := RV_ X.K X.mg) (r := .val (.bl b3)) rel3 p3 rfl)
  exact ⟨peMono (pe_chain ho ho' (se_val ha) (se_val hb) (se_val hc) hm) key, ptMono (pt_chain ho ho' (se_val ha) (se_val hb) (se_val hc) hm) fun σ H Q q => key σ H _ (rdB_rdE q)⟩
theorem rd_non {d : D} {v : V} (h : RD K mg w H d v) : decide (v = .non) = isNon d := by
  cases d with
  | non => rw [show v = _ from h]; rfl
  | bl _ => rw [show v = _ from h]; rfl
  | int _ => rw [show v = _ from h]; rfl
  | str _ => rw [show v = _ from h]; rfl
  | tup _ => obtain ⟨a, _, rfl, _⟩ := h; rfl
  | lst _ => obtain ⟨a, _, rfl, _⟩ := h; rfl
  | scr _ => obtain ⟨a, _, rfl, _⟩ := h; rfl
  | ref _ => obtain ⟨a, rfl, _⟩ := h; rfl
  | fn _ => obtain ⟨a, rfl, _⟩ := h; rfl
  | ty _ => rw [show v = _ from h]; rfl
theorem se_isN {j pos'} (ha : PE X a (rdE X Z C x)) : PE X (.Compare a [.Is] [.Constant .none j pos'] pos) (rdE X Z C (.isN x)) ∧ PT X (.Compare a [.Is] [.Constant .none j pos'] pos) (rdB X Z C (.isN x)) := by
  have key : ∀ σ H (Q : VK), rdE X Z C (.isN x) σ H Q → tIsN (rdV X Z C x) σ H Q := by
    rintro σ H Q ⟨w, st, rel, p⟩
    refine ⟨w, st, rel, (Post.seq (R := RD_ X.K X.mg) rel laterV p).imp ?_⟩
    rintro v H1 ⟨w1, st1, d1, rel1, rd1, g1, p1⟩
    rw [rd_non rd1]
    exact Post.ok (R := RV_ X.K X.mg) (r := .val (.bl _)) rel1 p1 rfl
  exact ⟨peMono (pe_cmp (pc_isN (se_val ha)) rfl) key, ptMono (pt_cmp (pc_isN (se_val ha)) rfl) fun σ H Q q => key σ H _ (rdB_rdE q)⟩
theorem se_notN {j pos'} (ha : PE X a (rdE X Z C x)) : PE X (.Compare a [.IsNot] [.Constant .none j pos'] pos) (rdE X Z C (.notN x)) ∧ PT X (.Compare a [.IsNot] [.Constant .none j pos'] pos) (rdB X Z C (.notN x)) := by
  have key : ∀ σ H (Q : VK), rdE X Z C (.notN x) σ H Q → tNotN (rdV X Z C x) σ H Q := by
    rintro σ H Q ⟨w, st, rel, p⟩
    refine ⟨w, st, rel, (Post.seq (R := RD_ X.K X.mg) rel laterV p).imp ?_⟩
    rintro v H1 ⟨w1, st1, d1, rel1, rd1, g1, p1⟩
    rw [rd_non rd1]
    exact Post.ok (R := RV_ X.K X.mg) (r := .val (.bl _)) rel1 p1 rfl
  exact ⟨peMono (pe_cmp (pc_notN (se_val ha)) rfl) key, ptMono (pt_cmp (pc_notN (se_val ha)) rfl) fun σ H Q q => key σ H _ (rdB_rdE q)⟩

/-! ### and, or, not, tests -/
variable {rest : List Expr}
theorem se_and (ha : PE X a (rdE X Z C x)) (hb : PE X (.BoolOp .And (b :: rest) pos) (rdE X Z C y)) : PE X (.BoolOp .And (a :: b :: rest) pos) (rdE X Z C (.and x y)) := by
  refine peMono (pe_and ha hb) ?_
  rintro σ H Q ⟨w, st, rel, p⟩
  refine ⟨w, st, rel, (Post.seq (R := RV_ X.K X.mg) rel laterV p).imp ?_⟩
  rintro v H1 ⟨w1, st1, r1, rel1, rv1, g1, p1⟩
  cases r1 with
  | new xs => exact p1.elim
  | val d =>
    cases d with
    | bl c =>
      refine ⟨c, rv1, ?_⟩
      cases c with
      | true => exact iteT ⟨w1, st1, rel1, p1⟩
      | false => exact iteF (Post.ok (R := RV_ X.K X.mg) (r := .val (.bl false)) rel1 p1 rfl)
    | _ => exact p1.elim
theorem se_or (ha : PE X a (rdE X Z C x)) (hb : PE X (.BoolOp .Or (b :: rest) pos) (rdE X Z C y)) : PE X (.BoolOp .Or (a :: b :: rest) pos) (rdE X Z C (.or x y)) := by
  refine peMono (pe_or ha hb) ?_
  rintro σ H Q ⟨w, st, rel, p⟩
  refine ⟨w, st, rel, (Post.seq (R := RV_ X.K X.mg) rel laterV p).imp ?_⟩
  rintro v H1 ⟨w1, st1, r1, rel1, rv1, g1, p1⟩
  cases r1 with
  | new xs => exact p1.elim
  | val d =>
    cases d with
    | bl c =>
      refine ⟨c, rv1, ?_⟩
      cases c with
      | false => exact iteF ⟨w1, st1, rel1, p1⟩
      | true => exact iteT (Post.ok (R := RV_ X.K X.mg) (r := .val (.bl true)) rel1 p1 rfl)
    | _ => exact p1.elim
theorem se_not (ha : PE X a (rdE X Z C x)) : PE X (.UnaryOp .Not a pos) (rdE X Z C (.not x)) := by
  refine peMono (pe_not ha) ?_
  rintro σ H Q ⟨w, st, rel, p⟩
  refine ⟨w, st, rel, (Post.seq (R := RV_ X.K X.mg) rel laterV p).imp ?_⟩
  rintro v H1 ⟨w1, st1, r1, rel1, rv1, g1, p1⟩
  cases r1 with
  | new xs => exact p1.elim
  | val d =>
    cases d with
    | bl c => exact ⟨c, rv1, Post.ok (R := RV_ X.K X.mg) (r := .val (.bl (!c))) rel1 p1 rfl⟩
    | _ => exact p1.elim
/-- the tests of two, in a row -/
theorem rdB_seq {f : Rv → St → Rs Rv} {σ : L2.St} {H : Hp} {w : Wd} {st : St} {Q : Bool → Hp → Prop} (rel : Rel X.K X.mg w st σ H) (hf : ∀ r s, (∀ b, r ≠ .val (.bl b)) → f r s = none) (p : Post X.K X.mg Z RT_ σ H w st (tst (bnd (evE C x st) f)) Q) :
    rdB X Z C x σ H fun b H1 => ∃ w1 st1, Rel X.K X.mg w1 st1 σ H1 ∧ Post X.K X.mg Z RT_ σ H1 w1 st1 (tst (f (.val (.bl b)) st1)) Q := by
  refine ⟨w, st, rel, ?_⟩
  have e : tst (bnd (evE C x st) f) = bnd (tst (evE C x st)) fun b s => tst (f (.val (.bl b)) s) := by
    rcases evE C x st with _ | ⟨r | r, s1⟩
    · rfl
    · rfl
    · cases r with
      | new xs => show tst (f (.new xs) s1) = none; rw [hf _ _ (by intro b z; cases z)]; rfl
      | val d =>
        cases d with
        | bl b => rfl
        | _ => show tst (f (.val _) s1) = none; rw [hf _ _ (by intro b z; cases z)]; rfl
  rw [e] at p
  refine (Post.seq (R := RT_) rel laterT p).imp ?_
  rintro v H1 ⟨w1, st1, r1, rel1, rfl, g1, p1⟩
  exact ⟨w1, st1, rel1, p1⟩
theorem se_tand (ha : PT X a (rdB X Z C x)) (hb : PW X (.BoolOp .And (b :: rest) pos) (rdB X Z C y)) : PW X (.BoolOp .And (a :: b :: rest) pos) (rdB X Z C (.tand x y)) := by
  refine pwMono (pw_and ha hb) ?_
  rintro σ H Q ⟨w, st, rel, p⟩
  obtain ⟨w', st', rel', q⟩ := rdB_seq rel (fun r s h => by cases r with
    | new xs => rfl
    | val d => cases d with
      | bl b => exact absurd rfl (h b)
      | _ => rfl) p
  refine ⟨w', st', rel', q.imp ?_⟩
  rintro c H1 ⟨w1, st1, rel1, p1⟩
  cases c with
  | true => exact iteT ⟨w1, st1, rel1, p1⟩
  | false => exact iteF (Post.ok (R := RT_) (r := false) rel1 p1 rfl)
theorem se_tor (ha : PT X a (rdB X Z C x)) (hb : PW X (.BoolOp .Or (b :: rest) pos) (rdB X Z C y)) : PW X (.BoolOp .Or (a :: b :: rest) pos) (rdB X Z C (.tor x y)) := by
  refine pwMono (pw_or ha hb) ?_
  rintro σ H Q ⟨w, st, rel, p⟩
  obtain ⟨w', st', rel', q⟩ := rdB_seq rel (fun r s h => by cases r with
    | new xs => rfl
    | val d => cases d with
      | bl b => exact absurd rfl (h b)
      | _ => rfl) p
  refine ⟨w', st', rel', q.imp ?_⟩
  rintro c H1 ⟨w1, st1, rel1, p1⟩
  cases c with
  | false => exact iteF ⟨w1, st1, rel1, p1⟩
  | true => exact iteT (Post.ok (R := RT_) (r := true) rel1 p1 rfl)
theorem se_tnot (ha : PT X a (rdB X Z C x)) : PT X (.UnaryOp .Not a pos) (rdB X Z C (.tnot x)) := by
  refine ptMono (pt_not ha) ?_
  rintro σ H Q ⟨w, st, rel, p⟩
  obtain ⟨w', st', rel', q⟩ := rdB_seq rel (fun r s h => by cases r with
    | new xs => rfl
    | val d => cases d with
      | bl b => exact absurd rfl (h b)
      | _ => rfl) p
  refine ⟨w', st', rel', q.imp ?_⟩
  rintro c H1 ⟨w1, st1, rel1, p1⟩
  exact Post.ok (R := RT_) (r := !c) rel1 p1 rfl
theorem se_tru (ha : PE X a (rdE X Z C x)) (he : ∀ whole, isTrue a X.env whole = (do let v ← whole; standAt a.pos; holding [v] (truthy v))) : PT X a (rdB X Z C (.tru x)) := by
  refine ptMono (pt_truth (se_val ha) he) ?_
  rintro σ H Q ⟨w, st, rel, p⟩
  have e : tst (evE C (.tru x) st) = bnd (fz (evE C x st)) fun d s => lift (truth d) s := by
    show tst (bnd (fz (evE C x st)) fun d s => lift ((truth d).map fun b => Rv.val (.bl b)) s) = _
    rcases fz (evE C x st) with _ | ⟨r | r, s1⟩
    · rfl
    · rfl
    · show tst (lift ((truth r).map fun b => Rv.val (.bl b)) s1) = lift (truth r) s1
      cases truth r <;> rfl
  rw [e] at p
  refine ⟨w, st, rel, (Post.seq (R := RD_ X.K X.mg) rel laterT p).imp ?_⟩
  rintro v H1 ⟨w1, st1, d1, rel1, rd1, g1, p1⟩
  cases e1 : truth d1 with
  | none => rw [e1] at p1; exact p1.elim
  | some b =>
    rw [e1] at p1
    exact ⟨b, truV_of rd1 e1, Post.ok (R := RT_) (r := b) rel1 p1 rfl⟩
/-- what gives a truth value, as a test -/
theorem se_tval (ha : PE X a (rdE X Z C x)) (he : ∀ whole, isTrue a X.env whole = (do let v ← whole; standAt a.pos; holding [v] (truthy v))) : PT X a (rdB X Z C x) :=
  ptMono (pt_val ha he) fun σ H Q q => rdB_rdE q
theorem se_ite (ht : PT X c (rdB X Z C z)) (ha : PE X a (rdE X Z C x)) (hb : PE X b (rdE X Z C y)) : PE X (.IfExp c a b pos) (rdE X Z C (.ite z x y)) := by
  refine peMono (pe_ifExp ht ha hb) ?_
  rintro σ H Q ⟨w, st, rel, p⟩
  have e : evE C (.ite z x y) st = bnd (tst (evE C z st)) fun b s => if b = true then evE C x s else evE C y s := by
    show bnd (evE C z st) _ = _
    rcases evE C z st with _ | ⟨r | r, s1⟩
    · rfl
    · rfl
    · cases r with
      | new xs => rfl
      | val d => cases d with
        | bl b => cases b <;> rfl
        | _ => rfl
  rw [e] at p
  refine ⟨w, st, rel, (Post.seq (R := RT_) rel laterV p).imp ?_⟩
  rintro k H1 ⟨w1, st1, r1, rel1, rfl, g1, p1⟩
  cases r1 with
  | true => exact iteT ⟨w1, st1, rel1, p1⟩
  | false => exact iteF ⟨w1, st1, rel1, p1⟩
end
end Pi

set_option Elab.async false
set_option linter.all false
set_option maxRecDepth 100000
set_option maxHeartbeats 1000000
/-! PiExp2: displays, indices, built-in calls, methods, texts. -/
namespace Pi
open PySem L2
section
variable {X : Cx} {Z : WX} {C : Cfg} {a b c : Expr} {x y z : E} {pos : Pos} {es : List Expr}
variable {K : PySem.W.Frag} {mg : Str → Option Value} {w w' w1 w2 : Wd} {H H' H1 H2 : Hp} {st st' st1 st2 : St} {σ σ' : L2.St}

theorem sa_nil : PA X [] (rdL X Z C .nil) := paMono pa_nil fun σ H Q ⟨w, st, rel, p⟩ => Post.ok (R := RL_ X.K X.mg) (r := []) rel p rfl
theorem sa_consV {ta : TE} (ha : PE X a ta) (hr : PA X es (rdL X Z C y)) (hs : starEach (a :: es) X.env = (false, eval a X.env) :: starEach es X.env)
    (i : ∀ σ H Q, (∃ w st, Rel X.K X.mg w st σ H ∧ Post X.K X.mg Z (RD_ X.K X.mg) σ H w st (fz (evE C x st)) Q) → ta σ H Q) : PA X (a :: es) (rdL X Z C (.cons x y)) := by
  refine paMono (pa_cons ha hr hs) ?_
  rintro σ H Q ⟨w, st, rel, p⟩
  refine i _ _ _ ⟨w, st, rel, (Post.seq (R := RD_ X.K X.mg) rel laterL p).imp ?_⟩
  rintro v H1 ⟨w1, st1, d1, rel1, rd1, g1, p1⟩
  refine ⟨w1, st1, rel1, (Post.seq (R := RL_ X.K X.mg) rel1 laterL p1).imp ?_⟩
  rintro vs H2 ⟨w2, st2, ds, rel2, rds, g2, p2⟩
  exact Post.ok (R := RL_ X.K X.mg) (r := d1 :: ds) rel2 p2 ⟨v, vs, rfl, rd1.ext rel1 g2.e, rds⟩
theorem sa_cons (ha : PE X a (rdE X Z C x)) (hr : PA X es (rdL X Z C y)) (hs : starEach (a :: es) X.env = (false, eval a X.env) :: starEach es X.env) : PA X (a :: es) (rdL X Z C (.cons x y)) :=
  sa_consV (se_val ha) hr hs fun σ H Q q => q

theorem se_tup {k} (h : PA X es (rdL X Z C x)) : PE X (.Tuple es k pos) (rdE X Z C (.tup x)) := by
  refine peMono (pe_tup h) ?_
  rintro σ H Q ⟨w, st, rel, p⟩
  refine ⟨w, st, rel, (Post.seq (R := RL_ X.K X.mg) rel laterV p).imp ?_⟩
  rintro vs H1 ⟨w1, st1, ds, rel1, rds, g1, p1⟩
  by_cases c : ds.length ≤ szL
  · rw [show gd (ds.length ≤ szL) (okk (Rv.val (.tup ds)) st1) = okk (Rv.val (.tup ds)) st1 from if_pos c] at p1
    have q : Done X.K X.mg σ H1 w1 st1 (.val (.tup ds)) Q := p1
    exact ⟨by rw [rds.length, ← szL_eq]; exact c, fun p hp => q.tup rel1 hp rds⟩
  · rw [show gd (ds.length ≤ szL) (okk (Rv.val (.tup ds)) st1) = none from if_neg c] at p1
    exact p1.elim
theorem se_lst (h : PA X es (rdL X Z C x)) : PE X (.List es pos) (rdE X Z C (.lst x)) := by
  refine peMono (pe_lst h) ?_
  rintro σ H Q ⟨w, st, rel, p⟩
  refine ⟨w, st, rel, (Post.seq (R := RL_ X.K X.mg) rel laterV p).imp ?_⟩
  rintro vs H1 ⟨w1, st1, ds, rel1, rds, g1, p1⟩
  by_cases c : ds.length ≤ szL
  · rw [show gd (ds.length ≤ szL) (okk (Rv.new ds) st1) = okk (Rv.new ds) st1 from if_pos c] at p1
    have q : Done X.K X.mg σ H1 w1 st1 (.new ds) Q := p1
    exact ⟨by rw [rds.length, ← szL_eq]; exact c, fun p hp => q.lst rel1 hp rds⟩
  · rw [show gd (ds.length ≤ szL) (okk (Rv.new ds) st1) = none from if_neg c] at p1
    exact p1.elim

theorem OpOk.ext {o : Opd} {v : V} {M' : Addr → Prop} (r : Rel K mg w st σ H) (h : OpOk K mg w st σ H o v) (g : Go (Mu w st σ) w H M' w' H') : OpOk K mg w' st' σ H' o v := by
  cases o with
  | val d => exact RD.ext r g.e h
  | slot k => exact h
theorem se_idx (ha : PE X a (rdP X Z C x)) (hb : PE X b (rdE X Z C y)) (hp : PlainIx b) : PE X (.Subscript a b pos) (rdE X Z C (.idx x y)) := by
  refine peMono (pe_ix ix_seq ha (se_val hb) hp) ?_
  rintro σ H Q ⟨w, st, rel, p⟩
  refine ⟨w, st, rel, (Post.seq (R := RP_ X.K X.mg) rel laterV p).imp ?_⟩
  rintro v H1 ⟨w1, st1, o, rel1, od, g1, p1⟩
  refine ⟨w1, st1, rel1, (Post.seq (R := RD_ X.K X.mg) rel1 laterV p1).imp ?_⟩
  rintro u H2 ⟨w2, st2, k, rel2, kd, g2, p2⟩
  cases e1 : o.get st2 with
  | none => rw [e1] at p2; exact p2.elim
  | some d =>
    rw [e1, Option.bind_some] at p2
    cases e2 : idxOp d k with
    | none => rw [e2] at p2; exact p2.elim
    | some r =>
      rw [e2] at p2
      exact idx_ok (OpOk.get rel2 (od.1.ext rel1 g2) e1) kd e2 fun v' h => Post.ok (R := RV_ X.K X.mg) (r := .val r) rel2 p2 h
theorem so_none : PO X none (rdO X Z C .no) := poMono po_none fun σ H Q ⟨w, st, rel, p⟩ => Post.ok (R := RO_) (r := none) rel p rfl
theorem so_some (ha : PE X a (rdE X Z C x)) : PO X (some a) (rdO X Z C (.yes x)) := by
  refine poMono (po_some (se_val ha)) ?_
  rintro σ H Q ⟨w, st, rel, p⟩
  refine ⟨w, st, rel, (Post.seq (R := RD_ X.K X.mg) rel laterO p).imp ?_⟩
  rintro v H1 ⟨w1, st1, d, rel1, rd1, g1, p1⟩
  cases d with
  | int i => exact ⟨i, rd1, Post.ok (R := RO_) (r := some i) rel1 p1 rfl⟩
  | _ => exact p1.elim
theorem se_slc {lo hi : Option Expr} {p2 : Pos} (ha : PE X a (rdP X Z C x)) (hl : PO X lo (rdO X Z C y)) (hh : PO X hi (rdO X Z C z)) : PE X (.Subscript a (.Slice lo hi none p2) pos) (rdE X Z C (.slc x y z)) := by
  obtain ⟨r, hr, hs⟩ := slc_sem (X := X)
  refine peMono (pe_slice hr ha hl hh) ?_
  rintro σ H Q ⟨w, st, rel, p⟩
  refine ⟨w, st, rel, (Post.seq (R := RP_ X.K X.mg) rel laterV p).imp ?_⟩
  rintro v H1 ⟨w1, st1, o, rel1, od, g1, p1⟩
  refine ⟨w1, st1, rel1, (Post.seq (R := RO_) rel1 laterV p1).imp ?_⟩
  rintro l H2 ⟨w2, st2, l', rel2, e2, g2, p2⟩
  have e2 : l' = l := e2
  subst e2
  refine ⟨w2, st2, rel2, (Post.seq (R := RO_) rel2 laterV p2).imp ?_⟩
  rintro h H3 ⟨w3, st3, h', rel3, e3, g3, p3⟩
  have e3 : h' = h := e3
  subst e3
  cases e1 : o.get st3 with
  | none => rw [e1] at p3; exact p3.elim
  | some d =>
    rw [e1, Option.bind_some] at p3
    cases e4 : slcOp d l' h' with
    | none => rw [e4] at p3; exact p3.elim
    | some rv =>
      rw [e4] at p3
      exact hs w3 st3 σ H3 d v l' h' rv Q rel3 (OpOk.get rel3 (OpOk.ext (st' := st3) rel2 (od.1.ext (st' := st2) rel1 g2) g3) e1) e4 p3

/-! ### built-in calls -/
def biName : Bi → Str
  | .len => "len" | .abs => "abs" | .int => "int" | .str => "str" | .max => "max" | .min => "min" | .sum => "sum" | .any => "any" | .all => "all" | .sorted => "sorted" | .list => "list" | .tuple => "tuple" | .repr => "repr"
theorem lift_some {R : Hp → Wd → St → L2.St → Hp → α → β → Prop} {m : Option α} {Q : β → Hp → Prop} (p : Post K mg Z R σ H w st (lift m st) Q) : ∃ a, m = some a ∧ Post K mg Z R σ H w st (okk a st) Q := by
  cases m with
  | none => exact p.elim
  | some a => exact ⟨a, rfl, p⟩
theorem se_bltB {g : List D → Option Rv} {n : Str} {id : String} {p : Pos} {f : Bi} (s : CallSem X (.builtin id) g) (eg : biOp f = g) (hg : Gl X n) (hm : X.mg n = none) (hv : bootBuiltins n = some (.builtin id)) (hn : n ≠ "__name__") (hdb : (n == ("__debug__" : Str)) = false)
    (ha : PA X (a :: es) (rdL X Z C x)) (he : starEach (a :: es) X.env = (false, eval a X.env) :: starEach es X.env) (hpl : (backTo pos (starEach es X.env)).any (·.1) = false) : PE X (.Call (.Name n p) (a :: es) [] pos) (rdE X Z C (.blt f x)) := by
  obtain ⟨r, hr, hs⟩ := s
  refine peMono (pe_callB hr hg hm hv ha hn hdb he hpl) ?_
  rintro σ H Q ⟨w, st, rel, p⟩
  refine ⟨w, st, rel, (Post.seq (R := RL_ X.K X.mg) rel laterV p).imp ?_⟩
  rintro vs H1 ⟨w1, st1, ds, rel1, rds, g1, p1⟩
  rw [eg] at p1
  obtain ⟨rv, e, q⟩ := lift_some p1
  exact hs w1 st1 σ H1 ds vs rv Q rel1 rds e q
theorem se_bltT {g : List D → Option Rv} {n : Str} {T : String} {p : Pos} {f : Bi} (s : CallSem X (.type T) g) (eg : biOp f = g) (hg : Gl X n) (hm : X.mg n = none) (hv : bootBuiltins n = some (.type T)) (hn : n ≠ "__name__") (hdb : (n == ("__debug__" : Str)) = false)
    (ha : PA X (a :: es) (rdL X Z C x)) (he : starEach (a :: es) X.env = (false, eval a X.env) :: starEach es X.env) (hpl : (backTo pos (starEach es X.env)).any (·.1) = false) : PE X (.Call (.Name n p) (a :: es) [] pos) (rdE X Z C (.blt f x)) := by
  obtain ⟨r, hr, hs⟩ := s
  refine peMono (pe_callTy hr hg hm hv ha hn hdb he hpl) ?_
  rintro σ H Q ⟨w, st, rel, p⟩
  refine ⟨w, st, rel, (Post.seq (R := RL_ X.K X.mg) rel laterV p).imp ?_⟩
  rintro vs H1 ⟨w1, st1, ds, rel1, rds, g1, p1⟩
  rw [eg] at p1
  obtain ⟨rv, e, q⟩ := lift_some p1
  exact hs w1 st1 σ H1 ds vs rv Q rel1 rds e q
/-- what the context has for built-in calls -/
structure Calm (X : Cx) : Prop where
  calm : X.calm = true
  units : X.A.units + 66 < cLine
  guards : X.A.guards = some []
theorem se_blt {p : Pos} (f : Bi) (c : Calm X) (hg : Gl X (biName f)) (hm : X.mg (biName f) = none)
    (ha : PA X (a :: es) (rdL X Z C x)) (he : starEach (a :: es) X.env = (false, eval a X.env) :: starEach es X.env) (hpl : (backTo pos (starEach es X.env)).any (·.1) = false) : PE X (.Call (.Name (biName f) p) (a :: es) [] pos) (rdE X Z C (.blt f x)) := by
  cases f with
  | len => exact se_bltB callSem_len rfl hg hm boot_len (by decide) (by decide) ha he hpl
  | abs => exact se_bltB callSem_abs rfl hg hm (by decide +kernel) (by decide) (by decide) ha he hpl
  | int => exact se_bltT callSem_int rfl hg hm (by decide +kernel) (by decide) (by decide) ha he hpl
  | str => exact se_bltT callSem_str rfl hg hm (by decide +kernel) (by decide) (by decide) ha he hpl
  | max => exact se_bltB (callSem_max c.calm) rfl hg hm (by decide +kernel) (by decide) (by decide) ha he hpl
  | min => exact se_bltB (callSem_min c.calm) rfl hg hm (by decide +kernel) (by decide) (by decide) ha he hpl
  | sum => exact se_bltB (callSem_sumL c.calm) rfl hg hm (by decide +kernel) (by decide) (by decide) ha he hpl
  | any => exact se_bltB (callSem_any c.calm) rfl hg hm (by decide +kernel) (by decide) (by decide) ha he hpl
  | all => exact se_bltB (callSem_all c.calm) rfl hg hm (by decide +kernel) (by decide) (by decide) ha he hpl
  | sorted => exact se_bltB callSem_sorted rfl hg hm (by decide +kernel) (by decide) (by decide) ha he hpl
  | list => exact se_bltT callSem_list rfl hg hm (by decide +kernel) (by decide) (by decide) ha he hpl
  | tuple => exact se_bltT callSem_tuple rfl hg hm (by decide +kernel) (by decide) (by decide) ha he hpl
  | repr => exact se_bltB (callSem_repr c.guards c.units) rfl hg hm (by decide +kernel) (by decide) (by decide) ha he hpl
theorem se_len {p : Pos} (hg : Gl X "len") (hm : X.mg "len" = none) (ha : PE X a (rdP X Z C x)) (he : starEach [a] X.env = [(false, eval a X.env)]) : PE X (.Call (.Name "len" p) [a] [] pos) (rdE X Z C (.len x)) := by
  refine peMono (pe_callB call_len hg hm boot_len (pa_cons ha pa_nil he) (he := he) (hpl := rfl)) ?_
  rintro σ H Q ⟨w, st, rel, p⟩
  refine ⟨w, st, rel, (Post.seq (R := RP_ X.K X.mg) rel laterV p).imp ?_⟩
  rintro v H1 ⟨w1, st1, o, rel1, od, g1, p1⟩
  cases e1 : o.get st1 with
  | none => rw [e1] at p1; exact p1.elim
  | some d =>
    rw [e1, Option.bind_some] at p1
    obtain ⟨rv, e, q⟩ := lift_some p1
    exact len_ok rel1 (OpOk.get rel1 od.1 e1) e q

/-! ### isinstance -/
def tyN : Ty → String
  | .int => "int" | .bool => "bool" | .str => "str" | .tuple => "tuple" | .list => "list" | .dict => "dict"
def kindN : D → String
  | .non => "NoneType" | .bl _ => "bool" | .int _ => "int" | .str _ => "str" | .tup _ => "tuple" | .lst _ => "list" | _ => ""
theorem kitB_none (t : Ty) : kitB "NoneType" (tyN t) = some false := by cases t <;> decide +kernel
theorem kitB_bool (t : Ty) : kitB "bool" (tyN t) = some (match t with | .bool => true | .int => true | _ => false) := by cases t <;> decide +kernel
theorem kitB_int (t : Ty) : kitB "int" (tyN t) = some (match t with | .int => true | _ => false) := by cases t <;> decide +kernel
theorem kitB_str (t : Ty) : kitB "str" (tyN t) = some (match t with | .str => true | _ => false) := by cases t <;> decide +kernel
theorem kitB_tuple (t : Ty) : kitB "tuple" (tyN t) = some (match t with | .tuple => true | _ => false) := by cases t <;> decide +kernel
theorem kitB_list (t : Ty) : kitB "list" (tyN t) = some (match t with | .list => true | _ => false) := by cases t <;> decide +kernel
theorem isi_ok {d : D} {v : V} {t : Ty} {k : Bool} {Q : VK} (h : RD K mg w H d v) (e : isTy d t = some k) (q : Q (.bl k) H) : rIsi K [v, .ty (tyN t)] H Q := by
  cases d with
  | non =>
    rw [show v = _ from h]
    refine ⟨_, _, _, _, k, rfl, .ty _, .base .non, kit_ty ?_, q⟩
    rw [kitB_none]; cases t <;> exact e
  | bl b =>
    rw [show v = _ from h]
    refine ⟨_, _, _, _, k, rfl, .ty _, .base (.bl b), kit_ty ?_, q⟩
    rw [kitB_bool]; cases t <;> exact e
  | int b =>
    rw [show v = _ from h]
    refine ⟨_, _, _, _, k, rfl, .ty _, .base (.int b), kit_ty ?_, q⟩
    rw [kitB_int]; cases t <;> exact e
  | str b =>
    rw [show v = _ from h]
    refine ⟨_, _, _, _, k, rfl, .ty _, .base (.str b), kit_ty ?_, q⟩
    rw [kitB_str]; cases t <;> exact e
  | tup xs =>
    obtain ⟨a, vs, rfl, ha, _⟩ := h
    rcases ha with ha | ⟨o, its, n, h1, h2, _⟩
    · refine ⟨_, _, _, _, k, rfl, .ty _, .base (.tup ha.1), kit_ty ?_, q⟩
      rw [kitB_tuple]; cases t <;> exact e
    · refine ⟨_, _, _, _, k, rfl, .ty _, .kTuple h1 h2, kit_ty ?_, q⟩
      rw [kitB_tuple]; cases t <;> exact e
  | lst xs =>
    obtain ⟨a, vs, rfl, ha, _⟩ := h
    refine ⟨_, _, _, _, k, rfl, .ty _, .base (.lst ha.1), kit_ty ?_, q⟩
    rw [kitB_list]; cases t <;> exact e
  | _ => cases t <;> cases e
theorem se_isi {p p' : Pos} {t : Ty} {n : Str} (hg : Gl X "isinstance") (hm : X.mg "isinstance" = none) (ha : PE X a (rdE X Z C x)) (hT : PE X (.Name n p') (tC (.ty (tyN t))))
    (he : starEach [a, .Name n p'] X.env = (false, eval a X.env) :: starEach [.Name n p'] X.env) : PE X (.Call (.Name "isinstance" p) [a, .Name n p'] [] pos) (rdE X Z C (.isi x t)) := by
  refine peMono (pe_callB call_isi hg hm PyProof.Rows.boot_isinstance (pa_cons (se_val ha) (pa_cons hT pa_nil rfl) he) (by decide) (by decide) he rfl) ?_
  rintro σ H Q ⟨w, st, rel, p⟩
  refine ⟨w, st, rel, (Post.seq (R := RD_ X.K X.mg) rel laterV p).imp ?_⟩
  rintro v H1 ⟨w1, st1, d, rel1, rd1, g1, p1⟩
  cases e : isTy d t with
  | none => rw [e] at p1; exact p1.elim
  | some k =>
    rw [e] at p1
    exact isi_ok rd1 e (Post.ok (R := RV_ X.K X.mg) (r := .val (.bl k)) rel1 p1 rfl)

/-! ### list(range(..)) -/
theorem rgV_rel (a b : Int) : RDs K mg w H ((List.range (b - a).toNat).map fun i => D.int (a + (i : Nat))) (rgV a b) := by
  unfold rgV
  generalize List.range (b - a).toNat = l
  induction l with
  | nil => rfl
  | cons i l ih => exact ⟨_, _, rfl, rfl, ih⟩
theorem rgV_rel1 (n : Int) : RDs K mg w H ((List.range n.toNat).map fun i => D.int (i : Nat)) (rgV 0 n) := by
  have := rgV_rel (K := K) (mg := mg) (w := w) (H := H) 0 n
  simpa using this
theorem se_rlst1 {p p' pos' : Pos} (hc : X.calm = true) (hg : Gl X "list") (hm : X.mg "list" = none) (hg' : Gl X "range") (hm' : X.mg "range" = none) (ha : PE X a (rdE X Z C x)) (na : starEach [a] X.env = (false, eval a X.env) :: starEach [] X.env) :
    PE X (.Call (.Name "list" p) [.Call (.Name "range" p') [a] [] pos'] [] pos) (rdE X Z C (.rlst1 x)) := by
  refine peMono (pe_listRg hc hg hm (prg_1 hg' hm' (se_val ha) na) rfl) ?_
  rintro σ H Q ⟨w, st, rel, p⟩
  refine ⟨w, st, rel, (Post.seq (R := RD_ X.K X.mg) rel laterV p).imp ?_⟩
  rintro v H1 ⟨w1, st1, d, rel1, rd1, g1, p1⟩
  obtain ⟨rv, e, q⟩ := lift_some p1
  cases d with
  | int n =>
    simp only [rng1] at e
    cases e1 : gd (small62 n) (some ((List.range n.toNat).map fun i => D.int (i : Nat))) with
    | none => rw [e1] at e; cases e
    | some l =>
      rw [e1, Option.bind_some] at e
      obtain ⟨c1, e2⟩ := gd_some e1
      cases e2
      obtain ⟨c2, e3⟩ := gd_some e
      cases e3
      have c3 : n.toNat ≤ 2 ^ 24 := by
        rw [List.length_map, List.length_range] at c2
        exact c2
      refine ⟨n, rd1, ⟨by decide, by decide, c1.1, c1.2, by rw [Int.sub_zero]; exact c3⟩, fun p hp => ?_⟩
      have q' : Done X.K X.mg σ H1 w1 st1 _ Q := q
      exact q'.lst rel1 hp (rgV_rel1 n)
  | _ => cases e
theorem se_rlst2 {p p' pos' : Pos} (hc : X.calm = true) (hg : Gl X "list") (hm : X.mg "list" = none) (hg' : Gl X "range") (hm' : X.mg "range" = none) (ha : PE X a (rdE X Z C x)) (hb : PE X b (rdE X Z C y)) (na : starEach [a, b] X.env = (false, eval a X.env) :: starEach [b] X.env) (nb : starEach [b] X.env = (false, eval b X.env) :: starEach [] X.env) :
    PE X (.Call (.Name "list" p) [.Call (.Name "range" p') [a, b] [] pos'] [] pos) (rdE X Z C (.rlst2 x y)) := by
  refine peMono (pe_listRg hc hg hm (prg_2 hg' hm' (se_val ha) (se_val hb) na nb (by rw [nb]; rfl)) rfl) ?_
  rintro σ H Q ⟨w, st, rel, p⟩
  refine ⟨w, st, rel, (Post.seq (R := RD_ X.K X.mg) rel laterV p).imp ?_⟩
  rintro v H1 ⟨w1, st1, d, rel1, rd1, g1, p1⟩
  refine ⟨w1, st1, rel1, (Post.seq (R := RD_ X.K X.mg) rel1 laterV p1).imp ?_⟩
  rintro u H2 ⟨w2, st2, d2, rel2, rd2, g2, p2⟩
  obtain ⟨rv, e, q⟩ := lift_some p2
  cases e1 : rng2 d d2 with
  | none => rw [e1] at e; cases e
  | some l =>
    rw [e1, Option.bind_some] at e
    obtain ⟨c2, e3⟩ := gd_some e
    cases e3
    unfold rng2 at e1
    split at e1
    · obtain ⟨c1, e2⟩ := gd_some e1
      cases e2
      rw [List.length_map, List.length_range] at c2
      refine ⟨_, _, rd1, rd2, ⟨c1.1.1, c1.1.2, c1.2.1, c1.2.2, c2⟩, fun p hp => ?_⟩
      have q' : Done X.K X.mg σ H2 w2 st2 _ Q := q
      exact q'.lst rel2 hp (rgV_rel _ _)
    · cases e1

/-! ### methods -/
/-- a changed list -/
theorem put_ok {o : Opd} {v : V} {xs ys : List D} {us : List V} (rel : Rel K mg w st σ H) (h : OpOk K mg w st σ H o v) (e : o.get st = some (.lst xs)) (e' : o.put ys st = some st') (r : RDs K mg w H ys us) :
    ∃ a vs, v = .ref a ∧ H a = some (.lst vs) ∧ RDs K mg w H xs vs ∧ Go (Mu w st σ) w H (Mu w st' σ) w (upd H a (.lst us)) ∧ Rel K mg w st' σ (upd H a (.lst us)) := by
  have main : ∀ (a : Addr) (vs : List V), Mu w st σ a → H a = some (.lst vs) →
      Go (Mu w st σ) w H (Mu w st σ) w (upd H a (.lst us)) := fun a vs hm ha =>
    ⟨fun b u hb n => by rw [upd_ne (fun z => n (by rw [z]; exact hm))]; exact hb, fun b hb => by
      by_cases z : b = a
      · rw [z, upd_same]; intro q; cases q
      · rw [upd_ne z]; exact hb, fun _ z => .inl z, fun _ z => .inl z, fun _ z _ => z, List.prefix_refl _⟩
  have al : ∀ (a : Addr) (b : Addr), w.W b → upd H a (.lst us) b ≠ none := fun a b hb => by
    by_cases z : b = a
    · rw [z, upd_same]; intro q; cases q
    · rw [upd_ne z]; exact rel.alloc b hb
  have tb : ∀ (a : Addr) (vs : List V), H a = some (.lst vs) → ∀ (b : Addr) ps, upd H a (.lst us) b = some (.tbl ps) → b ∈ w.io := fun a vs ha b ps hb => rel.stray b ps (upd_tbl noT_lst b ps hb)
  cases o with
  | slot k =>
    simp only [Opd.get, Opd.put] at e e'
    cases hk : Sl.at st.env k with
    | no => rw [hk] at e; cases e
    | val d => rw [hk] at e; cases e
    | own zs =>
      rw [hk] at e e'
      cases e
      cases e'
      have hk' := at_some hk (by intro z; cases z)
      have kl : k < st.env.length := (List.getElem?_eq_some_iff.mp hk').1
      obtain ⟨a, vs, h1, h2, h3, h4, h5⟩ := rel.own k xs hk'
      have h' : σ[k]? = some (some v) := h
      rw [h1] at h'; cases h'
      have own0 : OwnAt st σ k a := ⟨xs, hk', h1⟩
      have g := main a vs (.inr ⟨k, own0⟩) h2
      have sameOwn : ∀ i b, OwnAt { st with env := st.env.set k (.own ys) } σ i b → OwnAt st σ i b := by
        rintro i b ⟨zs, e1, e2⟩
        have e1 : (st.env.set k (.own ys))[i]? = some (.own zs) := e1
        by_cases hi : i = k
        · subst hi
          exact ⟨xs, hk', e2⟩
        · rw [List.getElem?_set_ne (Ne.symm hi)] at e1
          exact ⟨zs, e1, e2⟩
      refine ⟨a, vs, rfl, h2, h5, ⟨g.keep, g.there, g.wsub, fun b hb => ?_, g.wsup, g.pre⟩, ⟨?_, fun i d e => ?_, fun i zs e => ?_, fun i j b e1 e2 => rel.inj i j b (sameOwn _ _ e1) (sameOwn _ _ e2), fun n zs e c => ?_, fun n zs x e c => ?_, tb a vs h2, rel.slen, rel.nd, al a⟩⟩
      · rcases hb with hb | ⟨i, hb⟩
        · exact .inl (.inl hb)
        · exact .inl (.inr ⟨i, sameOwn _ _ hb⟩)
      · show σ.length = (st.env.set k _).length
        rw [List.length_set]; exact rel.len
      · have e : (st.env.set k (.own ys))[i]? = some (.val d) := e
        have hi : i ≠ k := by
          rintro rfl
          rw [List.getElem?_set_self kl] at e; cases e
        rw [List.getElem?_set_ne (Ne.symm hi)] at e
        obtain ⟨v, e1, e2⟩ := rel.val i d e
        exact ⟨v, e1, e2.ext rel g.e⟩
      · have e : (st.env.set k (.own ys))[i]? = some (.own zs) := e
        by_cases hi : i = k
        · subst hi
          rw [List.getElem?_set_self kl] at e; cases e
          exact ⟨a, us, h1, upd_same, h3, h4, r.ext rel g.e⟩
        · rw [List.getElem?_set_ne (Ne.symm hi)] at e
          obtain ⟨b, ws, e1, e2, e3, e4, e5⟩ := rel.own i zs e
          refine ⟨b, ws, e1, ?_, e3, e4, e5.ext rel g.e⟩
          rw [upd_ne]
          · exact e2
          · rintro rfl
            exact hi (rel.inj i k b ⟨zs, e, e1⟩ own0)
      · obtain ⟨b, ws, e1, e2, e3, e4⟩ := rel.cell n zs e c
        refine ⟨b, ws, e1, ?_, e3, e4.ext rel g.e⟩
        rw [upd_ne]
        · exact e2
        · rintro rfl
          exact h4 (List.mem_of_getElem? e1)
      · obtain ⟨b, e1, e2, e3⟩ := rel.tab n zs x e c
        exact ⟨b, e1, e2, e3.upd h2⟩
  | val d =>
    cases d with
    | ref n =>
      simp only [Opd.get, Opd.put] at e e'
      obtain ⟨⟨c, cn⟩, e'⟩ := gd_some e'
      cases e'
      obtain ⟨zs, e0, e1⟩ := Option.bind_eq_some_iff.mp e
      obtain ⟨c0, e1⟩ := gd_some e1
      cases e1
      obtain ⟨a, vs, h1, h2, h3, h4⟩ := rel.cell n xs e0 c0
      obtain ⟨a', q1, q2⟩ := (show ∃ a, v = .ref a ∧ w.io[n]? = some a from h)
      rw [h1] at q2; cases q2
      have mem : a ∈ w.io := List.mem_of_getElem? h1
      have g := main a vs (.inl mem) h2
      refine ⟨a, vs, q1, h2, h4, ⟨g.keep, g.there, g.wsub, fun b hb => .inl hb, g.wsup, g.pre⟩, ⟨rel.len, fun i d e => ?_, fun i zs e => ?_, rel.inj, fun m zs e cm => ?_, fun m zs x e cm => ?_, tb a vs h2, ?_, rel.nd, al a⟩⟩
      · obtain ⟨v, e1, e2⟩ := rel.val i d e
        exact ⟨v, e1, e2.ext rel g.e⟩
      · obtain ⟨b, ws, e1, e2, e3, e4, e5⟩ := rel.own i zs e
        refine ⟨b, ws, e1, ?_, e3, e4, e5.ext rel g.e⟩
        rw [upd_ne]
        · exact e2
        · rintro rfl
          exact e4 mem
      · have e : (st.sto.set n ys)[m]? = some zs := e
        by_cases hm : m = n
        · subst hm
          rw [List.getElem?_set_self c] at e; cases e
          exact ⟨a, us, h1, upd_same, h3, r.ext rel g.e⟩
        · rw [List.getElem?_set_ne (Ne.symm hm)] at e
          obtain ⟨b, ws, e1, e2, e3, e4⟩ := rel.cell m zs e cm
          refine ⟨b, ws, e1, ?_, e3, e4.ext rel g.e⟩
          rw [upd_ne]
          · exact e2
          · rintro rfl
            exact hm (nd_ix rel.nd e1 h1)
      · have e : (st.sto.set n ys)[m]? = some zs := e
        by_cases hm : m = n
        · subst hm
          rw [List.getElem?_set_self c] at e; cases e
          rw [cn] at cm; cases cm
        · rw [List.getElem?_set_ne (Ne.symm hm)] at e
          obtain ⟨b, e1, e2, e3⟩ := rel.tab m zs x e cm
          exact ⟨b, e1, e2, e3.upd h2⟩
      · show w.io.length = (st.sto.set n ys).length
        rw [List.length_set]; exact rel.slen
    | _ => cases e'

/-- a method of the list at a: g on data -/
def MutSem (X : Cx) (id : String) (g : List D → List D → Option (D × List D)) : Prop := ∃ r : V → List V → Hp → VK → Prop, MtR X id r ∧
  ∀ (w : Wd) (H : Hp) (a : Addr) (vs us : List V) (xs ds ys : List D) (d : D) (Q : VK), H a = some (.lst vs) → RDs X.K X.mg w H xs vs → RDs X.K X.mg w H ds us → g xs ds = some (d, ys) →
    (∀ ws v, RDs X.K X.mg w H ys ws → RD X.K X.mg w H d v → Q v (upd H a (.lst ws))) → r (.ref a) us H Q
theorem mutSem_append : MutSem X "list.append" appOp := by
  refine ⟨_, mt_append, ?_⟩
  intro w H a vs us xs ds ys d Q ha r1 r2 e q
  unfold appOp at e
  split at e
  · rename_i y
    obtain ⟨c, e⟩ := gd_some e
    cases e
    obtain ⟨u, rfl, hu⟩ := r2.one
    exact ⟨a, vs, u, rfl, rfl, ha, by rw [r1.length, ← szL_eq]; exact c, q _ .non (r1.append ⟨u, [], rfl, hu, rfl⟩) rfl⟩
  · cases e
theorem mutSem_pop : MutSem X "list.pop" popOp := by
  refine ⟨_, MtR.or mt_pop mt_popAt, ?_⟩
  intro w H a vs us xs ds ys d Q ha r1 r2 e q
  unfold popOp at e
  split at e
  · obtain ⟨y, e1, e2⟩ := map_some e
    cases e2
    obtain ⟨v, h1, h2⟩ := r1.get e1
    have e3 : us = [] := r2
    exact .inl ⟨a, vs, v, rfl, e3, ha, by rw [r1.length]; exact h1, q _ v r1.dropLast h2⟩
  · rename_i i
    obtain ⟨c, e⟩ := gd_some e
    cases e1 : ixOf xs.length i with
    | none => rw [e1] at e; cases e
    | some k =>
      rw [e1, Option.bind_some] at e
      obtain ⟨y, e2, e3⟩ := map_some e
      cases e3
      obtain ⟨u, rfl, hu⟩ := r2.one
      obtain ⟨v, h1, h2⟩ := r1.get e2
      refine .inr ⟨a, vs, i, k, v, rfl, by rw [show u = _ from hu], ha, c.1, c.2, ?_, h1, q _ v (r1.erase k) h2⟩
      rw [r1.length]
      exact (ixN_seq (by rw [← ixOf_eq]; exact e1)).1
  · cases e
theorem lst_split {o : Opd} {v : V} {xs : List D} (rel : Rel K mg w st σ H) (od : OpOk K mg w st σ H o v) (e : lstOf (o.get st) = some xs) : o.get st = some (.lst xs) ∧ ∃ a vs, v = .ref a ∧ H a = some (.lst vs) ∧ RDs K mg w H xs vs := by
  cases q : o.get st with
  | none => rw [q] at e; cases e
  | some d =>
    rw [q] at e
    cases d with
    | lst ys =>
      cases e
      exact ⟨rfl, OpOk.get rel od q⟩
    | _ => cases e
theorem mth_end {m : Me} {id : String} (s : MutSem X id (mtOp m)) {o : Opd} {v : V} {ds : List D} {us : List V} {Q : VK} (rel : Rel X.K X.mg w st σ H) (od : OpOk X.K X.mg w st σ H o v) (rds : RDs X.K X.mg w H ds us)
    (p : Post X.K X.mg Z (RV_ X.K X.mg) σ H w st (match (lstOf (o.get st)).bind fun xs => mtOp m xs ds with
      | none => none
      | some (r, ys) => match o.put ys st with
        | none => none
        | some s' => okk (.val r) s') Q) : s.choose v us H Q := by
  cases e1 : lstOf (o.get st) with
  | none => rw [e1] at p; exact p.elim
  | some xs =>
    rw [e1, Option.bind_some] at p
    cases e2 : mtOp m xs ds with
    | none => rw [e2] at p; exact p.elim
    | some pr =>
      obtain ⟨d, ys⟩ := pr
      rw [e2] at p
      cases e3 : o.put ys st with
      | none => simp only [e3] at p; exact p.elim
      | some s' =>
        simp only [e3] at p
        obtain ⟨h0, a, vs, rfl, h1, h2⟩ := lst_split rel od e1
        refine s.choose_spec.2 w H a vs us xs ds ys d Q h1 h2 rds e2 fun ws u r1 r2 => ?_
        obtain ⟨b, vs', q1, q2, q3, g3, rel3⟩ := put_ok rel od h0 e3 r1
        cases q1
        exact p u w _ g3 rel3 (r2.ext rel g3.e)
theorem se_mth1 {m : Me} {id : String} {nm : Str} {apos : Pos} (s : MutSem X id (mtOp m)) (slot : Slot "list" nm id) (hty : typeOf (.builtin id) = pure (.type "method_descriptor")) (ha : PE X a (rdP X Z C x)) (hb : PA X (b :: es) (rdL X Z C y)) (hbase : attributeBase a nm X.env (eval a X.env) = eval a X.env)
    (hfew : ((backTo pos (starEach (b :: es) X.env)).all (fun x => !x.1) && (backToKw pos (keywordEach [] X.env)).all (fun x => x.1.isSome) && decide ((b :: es).length + ([] : List Keyword).length + (if ([] : List Keyword).isEmpty then 0 else 1) < 30)) = true)
    (hline : (apos.endLine == pos.line) = true) (hs : starEach (b :: es) X.env = (false, eval b X.env) :: starEach es X.env) (hpl : (backTo pos (starEach es X.env)).any (·.1) = false) : PE X (.Call (.Attribute a nm apos) (b :: es) [] pos) (rdE X Z C (.mth m x y)) := by
  refine peMono (pe_bm PySem.F.plainAttrs_list slot hty s.choose_spec.1 ha hb hbase hfew hline hs hpl) ?_
  rintro σ H Q ⟨w, st, rel, p⟩
  refine ⟨w, st, rel, (Post.seq (R := RP_ X.K X.mg) rel laterV p).imp ?_⟩
  rintro v H1 ⟨w1, st1, o, rel1, od, g1, p1⟩
  cases c : lstOf (o.get st1) with
  | none => rw [c] at p1; exact p1.elim
  | some zs =>
    rw [c] at p1
    obtain ⟨_, a', vs', rfl, h1, _⟩ := lst_split rel1 od.1 c
    refine ⟨.inl ⟨rfl, vs', SqL.of h1⟩, w1, st1, rel1, (Post.seq (R := RL_ X.K X.mg) rel1 laterV p1).imp ?_⟩
    rintro us H2 ⟨w2, st2, ds, rel2, rds, g2, p2⟩
    exact mth_end s rel2 (od.1.ext rel1 g2) rds p2
theorem se_mth0 {m : Me} {id : String} {nm : Str} {apos : Pos} (s : MutSem X id (mtOp m)) (slot : Slot "list" nm id) (hty : typeOf (.builtin id) = pure (.type "method_descriptor")) (ha : PE X a (rdP X Z C x)) (hbase : attributeBase a nm X.env (eval a X.env) = eval a X.env)
    (hline : (apos.endLine == pos.line) = true) : PE X (.Call (.Attribute a nm apos) [] [] pos) (rdE X Z C (.mth m x .nil)) := by
  refine peMono (pe_bm0 PySem.F.plainAttrs_list slot hty s.choose_spec.1 ha hbase hline) ?_
  rintro σ H Q ⟨w, st, rel, p⟩
  refine ⟨w, st, rel, (Post.seq (R := RP_ X.K X.mg) rel laterV p).imp ?_⟩
  rintro v H1 ⟨w1, st1, o, rel1, od, g1, p1⟩
  cases c : lstOf (o.get st1) with
  | none => rw [c] at p1; exact p1.elim
  | some zs =>
    have p2 := p1
    simp only [c] at p2
    obtain ⟨_, a', vs', rfl, h1, _⟩ := lst_split rel1 od.1 c
    exact ⟨.inl ⟨rfl, vs', SqL.of h1⟩, mth_end s (ds := []) rel1 od.1 rfl p2⟩
theorem se_join {apos : Pos} (ha : PE X a (rdE X Z C x)) (hb : PE X b (rdE X Z C y)) (hs : starEach [b] X.env = [(false, eval b X.env)]) (hbase : attributeBase a "join" X.env (eval a X.env) = eval a X.env) (hline : (apos.endLine == pos.line) = true) :
    PE X (.Call (.Attribute a "join" apos) [b] [] pos) (rdE X Z C (.sth .join x (.cons y .nil))) := by
  refine peMono (pe_join (se_val ha) (se_val hb) hs hbase hline) ?_
  rintro σ H Q ⟨w, st, rel, p⟩
  refine ⟨w, st, rel, (Post.seq (R := RD_ X.K X.mg) rel laterV p).imp ?_⟩
  rintro v H1 ⟨w1, st1, d, rel1, rd1, g1, p1⟩
  cases d with
  | str z =>
    have e : (bnd (evL C (.cons y .nil) st1) fun ds s => lift (msOp .join z ds) s) = bnd (fz (evE C y st1)) fun d s => lift (msOp .join z [d]) s := by
      show bnd (bnd (fz (evE C y st1)) fun x s => bnd (okk [] s) fun xs s => okk (x :: xs) s) _ = _
      rcases fz (evE C y st1) with _ | ⟨r | r, s1⟩ <;> rfl
    have p1 : Post X.K X.mg Z (RV_ X.K X.mg) σ H1 w1 st1 (bnd (evL C (.cons y .nil) st1) fun ds s => lift (msOp .join z ds) s) Q := p1
    rw [e] at p1
    refine ⟨⟨z, rd1⟩, w1, st1, rel1, (Post.seq (R := RD_ X.K X.mg) rel1 laterV p1).imp ?_⟩
    rintro u H2 ⟨w2, st2, d2, rel2, rd2, g2, p2⟩
    obtain ⟨rv, e2, q⟩ := lift_some p2
    cases d2 with
    | lst xs =>
      have e2 : ((allStrs xs).bind fun l => gd ((l.map (·.length)).sum + l.length * z.length ≤ szL) (some (Rv.val (.str (Txt.join z l))))) = some rv := e2
      cases e3 : allStrs xs with
      | none => rw [e3] at e2; cases e2
      | some l =>
        rw [e3, Option.bind_some] at e2
        obtain ⟨c, e4⟩ := gd_some e2
        cases e4
        obtain ⟨b', vs, rfl, hb', r⟩ := rd2
        have e5 := r.strs e3
        subst e5
        exact ⟨z, b', l, rd1, rfl, .inl (SqL.of hb'.1), c, Post.ok (R := RV_ X.K X.mg) (r := .val (.str _)) rel2 q rfl⟩
    | _ => cases e2
  | _ => exact p1.elim

/-! ### f-strings -/
theorem se_fmt (ha : PE X a (rdE X Z C x)) : PE X (.FormattedValue a (-1) none pos) (rdE X Z C (.fmt x)) := by
  refine peMono (pe_fmt (se_val ha)) ?_
  rintro σ H Q ⟨w, st, rel, p⟩
  refine ⟨w, st, rel, (Post.seq (R := RD_ X.K X.mg) rel laterV p).imp ?_⟩
  rintro v H1 ⟨w1, st1, d, rel1, rd1, g1, p1⟩
  cases d with
  | str z =>
    obtain ⟨rv, e, q⟩ := lift_some p1
    obtain ⟨y, e1, rfl⟩ := map_some e
    obtain ⟨c, e2⟩ := gd_some (show gd (z.length ≤ szL) (some z) = some y from e1)
    cases e2
    exact .inl ⟨z, rd1, by rw [← szL_eq]; exact c, Post.ok (R := RV_ X.K X.mg) (r := .val (.str z)) rel1 q rfl⟩
  | int i =>
    obtain ⟨rv, e, q⟩ := lift_some p1
    obtain ⟨y, e1, rfl⟩ := map_some e
    obtain ⟨c, e2⟩ := gd_some (show gd (i.natAbs.log2 < 1920) (some (toString i : Str)) = some y from e1)
    cases e2
    exact .inr ⟨i, rd1, c, Post.ok (R := RV_ X.K X.mg) (r := .val (.str _)) rel1 q rfl⟩
  | _ => exact p1.elim
/-- the parts' judgements -/
inductive SJ (X : Cx) (Z : WX) (C : Cfg) : List Expr → E → List TE → Prop where
  | nil : SJ X Z C [] .nil []
  | cons {e : Expr} {x r : E} {es : List Expr} {ts : List TE} (h : PE X e (rdE X Z C x)) (t : SJ X Z C es r ts) : SJ X Z C (e :: es) (.cons x r) (rdV X Z C x :: ts)
theorem SJ.pj {ts : List TE} (h : SJ X Z C es x ts) : PJ X es ts := by
  induction h with
  | nil => exact .nil
  | cons h _ ih => exact .cons (se_val h) ih
theorem SJ.rd {ts : List TE} (h : SJ X Z C es x ts) : ∀ (acc : Str) (σ : L2.St) (H : Hp) (w : Wd) (st : St) (Q : Str → Hp → Prop), Rel X.K X.mg w st σ H → Post X.K X.mg Z (fun _ _ _ _ _ (s : Str) (v : Str) => s = v) σ H w st (evJ C x acc st) Q → tJs ts acc σ H Q := by
  induction h with
  | nil => exact fun acc σ H w st Q rel p => p acc w H Go.refl rel rfl
  | @cons e x r es ts h t ih =>
    intro acc σ H w st Q rel p
    refine ⟨w, st, rel, (Post.seq (R := RD_ X.K X.mg) rel (fun _ _ _ _ _ _ _ _ _ q => q) p).imp ?_⟩
    rintro v H1 ⟨w1, st1, d, rel1, rd1, g1, p1⟩
    cases d with
    | str z =>
      have p1 : Post X.K X.mg Z (fun _ _ _ _ _ (s : Str) (v : Str) => s = v) σ H1 w1 st1 (gd (acc.length + z.length ≤ szL) (evJ C r (acc ++ z) st1)) Q := p1
      by_cases c : acc.length + z.length ≤ szL
      · rw [show gd (acc.length + z.length ≤ szL) (evJ C r (acc ++ z) st1) = _ from if_pos c] at p1
        refine ⟨z, rd1, ?_, ih (acc ++ z) σ H1 w1 st1 Q rel1 p1⟩
        have : (acc ++ z).length = acc.length + z.length := by
          show (acc.cps ++ z.cps).size = _
          rw [Array.size_append]; rfl
        rw [this, ← szL_eq]; exact c
      · rw [show gd (acc.length + z.length ≤ szL) (evJ C r (acc ++ z) st1) = none from if_neg c] at p1
        exact p1.elim
    | _ => exact p1.elim
theorem se_fstr {e1 e2 : Expr} {rest : List Expr} {ts : List TE} (h : SJ X Z C (e1 :: e2 :: rest) x ts) : PE X (.JoinedStr (e1 :: e2 :: rest) pos) (rdE X Z C (.fstr x)) := by
  refine peMono (pe_joined h.pj) ?_
  rintro σ H Q ⟨w, st, rel, p⟩
  refine h.rd Str.empty σ H w st _ rel ?_
  refine (Post.seq (R := fun _ _ _ _ _ (s : Str) (v : Str) => s = v) rel laterV p).imp ?_
  rintro v H1 ⟨w1, st1, d, rel1, rfl, g1, p1⟩
  exact Post.ok (R := RV_ X.K X.mg) (r := .val (.str d)) rel1 p1 rfl
end
end Pi

set_option Elab.async false
set_option linter.all false
set_option maxRecDepth 100000
set_option maxHeartbeats 1000000
/-! PiIter: targets, what is walked, comprehensions. -/
namespace Pi
open PySem L2
section
variable {X : Cx} {Z : WX} {C : Cfg} {a b c : Expr} {x y z : E} {pos : Pos} {es : List Expr}
variable {M M' : Addr → Prop} {K : PySem.W.Frag} {mg : Str → Option Value} {w w' w1 w2 : Wd} {H H' H1 H2 : Hp} {st st' st1 st2 : St} {σ σ' : L2.St}

/-- a name is bound to a datum -/
theorem bind_val {i : Nat} {d : D} {v : V} (rel : Rel K mg w st σ H) (h : RD K mg w H d v) (hi : i < st.env.length) :
    Go (Mu w st σ) w H (Mu w { st with env := st.env.set i (.val d) } (σ.set i (some v))) w H ∧ Rel K mg w { st with env := st.env.set i (.val d) } (σ.set i (some v)) H := by
  have hi' : i < σ.length := by rw [rel.len]; exact hi
  have own0 : ∀ {j : Nat} {b : Addr}, OwnAt { st with env := st.env.set i (.val d) } (σ.set i (some v)) j b → OwnAt st σ j b ∧ j ≠ i := by
    rintro j b ⟨ys, e1, e2⟩
    have e1 : (st.env.set i (.val d))[j]? = some (.own ys) := e1
    by_cases hj : j = i
    · subst hj
      rw [List.getElem?_set_self hi] at e1; cases e1
    · rw [List.getElem?_set_ne (Ne.symm hj)] at e1 e2
      exact ⟨⟨ys, e1, e2⟩, hj⟩
  refine ⟨⟨fun _ _ e _ => e, fun _ e => e, fun _ e => .inl e, fun b hb => ?_, fun _ hb _ => hb, List.prefix_refl _⟩, ⟨?_, fun j d' e => ?_, fun j ys e => ?_, fun j k b e1 e2 => rel.inj j k b (own0 e1).1 (own0 e2).1, rel.cell, rel.tab, rel.stray, rel.slen, rel.nd, rel.alloc⟩⟩
  · rcases hb with hb | ⟨j, hb⟩
    · exact .inl (.inl hb)
    · exact .inl (.inr ⟨j, (own0 hb).1⟩)
  · show (σ.set i _).length = (st.env.set i _).length
    rw [List.length_set, List.length_set]; exact rel.len
  · have e : (st.env.set i (.val d))[j]? = some (.val d') := e
    by_cases hj : j = i
    · subst hj
      rw [List.getElem?_set_self hi] at e; cases e
      exact ⟨v, by rw [List.getElem?_set_self hi'], h⟩
    · rw [List.getElem?_set_ne (Ne.symm hj)] at e ⊢
      exact rel.val j d' e
  · have e : (st.env.set i (.val d))[j]? = some (.own ys) := e
    have hj : j ≠ i := by
      rintro rfl
      rw [List.getElem?_set_self hi] at e; cases e
    rw [List.getElem?_set_ne (Ne.symm hj)] at e ⊢
    exact rel.own j ys e
/-- a name is bound to a list that nothing else holds -/
theorem bind_own {i : Nat} {xs : List D} {a : Addr} {vs : List V} (rel : Rel K mg w st σ H) (h1 : H a = some (.lst vs)) (h2 : w.W a) (h3 : ¬ Mu w st σ a) (h4 : RDs K mg w H xs vs) (hi : i < st.env.length) {H0 : Hp} {w0 : Wd} {M0 : Addr → Prop}
    (g : Go M0 w0 H0 (Mu w st σ) w H) (f : H0 a = none) :
    Go M0 w0 H0 (Mu w { st with env := st.env.set i (.own xs) } (σ.set i (some (.ref a)))) w H ∧ Rel K mg w { st with env := st.env.set i (.own xs) } (σ.set i (some (.ref a))) H := by
  have hi' : i < σ.length := by rw [rel.len]; exact hi
  have own0 : ∀ {j : Nat} {b : Addr}, OwnAt { st with env := st.env.set i (.own xs) } (σ.set i (some (.ref a))) j b → (j = i ∧ b = a) ∨ (OwnAt st σ j b ∧ j ≠ i) := by
    rintro j b ⟨ys, e1, e2⟩
    have e1 : (st.env.set i (.own xs))[j]? = some (.own ys) := e1
    by_cases hj : j = i
    · subst hj
      rw [List.getElem?_set_self hi'] at e2; cases e2
      exact .inl ⟨rfl, rfl⟩
    · rw [List.getElem?_set_ne (Ne.symm hj)] at e1 e2
      exact .inr ⟨⟨ys, e1, e2⟩, hj⟩
  refine ⟨⟨g.keep, g.there, g.wsub, fun b hb => ?_, g.wsup, g.pre⟩, ⟨?_, fun j d' e => ?_, fun j ys e => ?_, fun j k b e1 e2 => ?_, rel.cell, rel.tab, rel.stray, rel.slen, rel.nd, rel.alloc⟩⟩
  · rcases hb with hb | ⟨j, hb⟩
    · exact g.msub b (.inl hb)
    · rcases own0 hb with ⟨_, rfl⟩ | ⟨hb, _⟩
      · exact .inr f
      · exact g.msub b (.inr ⟨j, hb⟩)
  · show (σ.set i _).length = (st.env.set i _).length
    rw [List.length_set, List.length_set]; exact rel.len
  · have e : (st.env.set i (.own xs))[j]? = some (.val d') := e
    have hj : j ≠ i := by
      rintro rfl
      rw [List.getElem?_set_self hi] at e; cases e
    rw [List.getElem?_set_ne (Ne.symm hj)] at e ⊢
    exact rel.val j d' e
  · have e : (st.env.set i (.own xs))[j]? = some (.own ys) := e
    by_cases hj : j = i
    · subst hj
      rw [List.getElem?_set_self hi] at e; cases e
      exact ⟨a, vs, by rw [List.getElem?_set_self hi'], h1, h2, fun z => h3 (.inl z), h4⟩
    · rw [List.getElem?_set_ne (Ne.symm hj)] at e ⊢
      exact rel.own j ys e
  · rcases own0 e1 with ⟨z1, z2⟩ | ⟨q1, n1⟩
    · rcases own0 e2 with ⟨z3, _⟩ | ⟨q2, _⟩
      · rw [z1, z3]
      · exact absurd (.inr ⟨k, z2 ▸ q2⟩) h3
    · rcases own0 e2 with ⟨z1, z2⟩ | ⟨q2, _⟩
      · exact absurd (.inr ⟨j, z2 ▸ q1⟩) h3
      · exact rel.inj j k b q1 q2

/-! ### targets -/
/-- the slots of a target -/
def T.sl : T → List Nat
  | .nm i => [i]
  | .nil => []
  | .cons t r => t.sl ++ r.sl
def Off (l : List Nat) (σ σ' : L2.St) : Prop := σ'.length = σ.length ∧ ∀ i : Nat, i ∉ l → σ'[i]? = σ[i]?
theorem Off.refl {l : List Nat} : Off l σ σ := ⟨rfl, fun _ _ => rfl⟩
theorem Off.trans {l l' : List Nat} {σ1 σ2 : L2.St} (a : Off l σ σ1) (b : Off l' σ1 σ2) : Off (l ++ l') σ σ2 := ⟨b.1.trans a.1, fun i h => (b.2 i fun z => h (List.mem_append_right _ z)).trans (a.2 i fun z => h (List.mem_append_left _ z))⟩
def rdG (X : Cx) (t : T) : TG := fun v σ H Q => ∃ w st d env, Rel X.K X.mg w st σ H ∧ RD X.K X.mg w H d v ∧ bindT t d st.env = some env ∧
  ∀ σ', Off t.sl σ σ' → Go (Mu w st σ) w H (Mu w { st with env := env } σ') w H → Rel X.K X.mg w { st with env := env } σ' H → Q σ' H
def rdGs (X : Cx) (t : T) : TGs := fun vs σ H Q => ∃ w st ds env, Rel X.K X.mg w st σ H ∧ RDs X.K X.mg w H ds vs ∧ bindT t (.tup ds) st.env = some env ∧
  ∀ σ', Off t.sl σ σ' → Go (Mu w st σ) w H (Mu w { st with env := env } σ') w H → Rel X.K X.mg w { st with env := env } σ' H → Q σ' H
theorem sg_nm {i : Nat} {n : Str} (hN : X.N.Nodup) (hi : X.N[i]? = some n) (hx : Loc X.env.scope n) (hf : X.fn n = true ∨ X.env.scope.names.lookup n = some .local) : PG X (.Name n pos) (rdG X (.nm i)) := by
  refine pgMono (pg_name hN hi hx hf) ?_
  rintro v σ H Q ⟨w, st, d, env, rel, rd, e, q⟩
  obtain ⟨c, e⟩ := gd_some (show gd (i < st.env.length) (some (st.env.set i (.val d))) = some env from e)
  cases e
  obtain ⟨g, r⟩ := bind_val rel rd c
  exact q _ ⟨List.length_set .., fun j hj => List.getElem?_set_ne (fun z => hj (by rw [z]; exact List.mem_singleton.mpr rfl))⟩ g r
theorem sgs_nil : PGs X [] (rdGs X .nil) := by
  refine ⟨fun pins s σ H vs us Q I r h => ?_⟩
  obtain ⟨w, st, ds, env, rel, rd, e, q⟩ := h
  cases ds with
  | nil =>
    cases e
    exact (pgs_nil (X := X)).run pins s σ H vs us Q I r ⟨rd, q σ Off.refl Go.refl rel⟩
  | cons => cases e
theorem sgs_cons {t u : T} (h1 : PG X a (rdG X t)) (h2 : PGs X es (rdGs X u)) (hs : (assignEach (a :: es) X.env).map (·.2) = assign a X.env :: (assignEach es X.env).map (·.2)) : PGs X (a :: es) (rdGs X (.cons t u)) := by
  refine ⟨fun pins s σ H vs us Q I r h => ?_⟩
  obtain ⟨w, st, ds, env, rel, rd, e, q⟩ := h
  cases ds with
  | nil => cases e
  | cons d ds =>
    obtain ⟨v, vr, rfl, rd1, rd2⟩ := rd
    have e : ((bindT t d st.env).bind fun env' => bindT u (.tup ds) env') = some env := e
    cases e1 : bindT t d st.env with
    | none => rw [e1] at e; cases e
    | some env1 =>
      rw [e1, Option.bind_some] at e
      refine (pgs_cons h1 h2 hs).run pins s σ H _ us Q I r ⟨v, vr, rfl, w, st, d, env1, rel, rd1, e1, fun σ1 o1 g1 rel1 => ?_⟩
      exact ⟨w, { st with env := env1 }, ds, env, rel1, rd2.ext rel g1.e, e, fun σ2 o2 g2 rel2 => q σ2 (o1.trans o2) (g1.trans g2 rel.alloc) rel2⟩
/-- how many a target takes -/
def T.len : T → Nat
  | .cons _ r => r.len + 1
  | _ => 0
def T.isL : T → Bool
  | .cons _ r => r.isL
  | .nil => true
  | .nm _ => false
theorem bindT_len : ∀ {t : T} {ds : List D} {e e' : List Sl}, t.isL = true → bindT t (.tup ds) e = some e' → ds.length = t.len := by
  intro t
  induction t with
  | nm i => intro ds e e' n; cases n
  | nil =>
    intro ds e e' _ h
    cases ds with
    | nil => rfl
    | cons => cases h
  | cons t r _ ih =>
    intro ds e e' n h
    cases ds with
    | nil => cases h
    | cons d ds =>
      have h : ((bindT t d e).bind fun env' => bindT r (.tup ds) env') = some e' := h
      cases e1 : bindT t d e with
      | none => rw [e1] at h; cases h
      | some env1 =>
        rw [e1, Option.bind_some] at h
        rw [List.length_cons, ih n h]; rfl
theorem bindT_tup {t : T} {d : D} {e e' : List Sl} (n : t.isL = true) (h : bindT t d e = some e') : ∃ ds, d = .tup ds := by
  cases t with
  | nm i => cases n
  | nil => cases d <;> first | exact ⟨_, rfl⟩ | cases h
  | cons t r => cases d <;> first | exact ⟨_, rfl⟩ | cases h
theorem sg_tup {t : T} {k : Nat} (hc : X.calm = true) (n : t.isL = true) (hl : t.len = es.length) (h : PGs X es (rdGs X t)) (hn : (assignEach es X.env).length = es.length) (hst : (assignEach es X.env).findIdx? (·.1) = none) : PG X (.Tuple es k pos) (rdG X t) := by
  refine pgMono (pg_tup hc h hn hst) ?_
  rintro v σ H Q ⟨w, st, d, env, rel, rd, e, q⟩
  obtain ⟨ds, rfl⟩ := bindT_tup n e
  obtain ⟨a, vs, rfl, ha, r⟩ := rd
  exact ⟨a, vs, rfl, sqT_of ha, by rw [r.length, bindT_len n e, hl], w, st, ds, env, rel, r, e, q⟩

/-! ### what is walked -/
/-- J walks the items, from w, H on -/
def Walks_ (K : PySem.W.Frag) (mg : Str → Option Value) (M : Addr → Prop) (w : Wd) (H : Hp) (J : It) (items : List D) : Prop :=
  ∃ (G : Hp → Prop) (Y : Nat → Hp → V → Hp → Prop), Walk J items.length G Y ∧ (∀ M' w' H', Go M w H M' w' H' → G H') ∧
    ∀ i H' x H'' M' w', i < items.length → Go M w H M' w' H' → Y i H' x H'' → (∀ b, w'.W b → H' b ≠ none) → ∃ d, items[i]? = some d ∧ RD K mg w' H'' d x ∧ (H'' = H' ∨ ∃ T o, H' T = none ∧ NoT o ∧ H'' = upd H' T o)
def rdI (X : Cx) (Z : WX) (C : Cfg) (e : E) : TI := fun σ H R => ∃ w st, Rel X.K X.mg w st σ H ∧
  match evI C e st with
  | none => False
  | some (.ok items, st1) => ∀ w1 H1 J, Go (Mu w st σ) w H (Mu w1 st1 σ) w1 H1 → Rel X.K X.mg w1 st1 σ H1 → (∀ M, (∀ a, M a → w1.W a) → Walks_ X.K X.mg M w1 H1 J items) → R J H1
  | some (.error x, st') => ∀ cls d w' H', Go (Mu w st σ) w H (Mu w' st' σ) w' H' → Rel X.K X.mg w' st' σ H' → XOk X.mg x cls → Z cls d σ H'
theorem Go.lst (g : Go M w H M' w' H') (mw : ∀ a, M a → w.W a) {a : Addr} {vs : List V} (h : H a = some (.lst vs)) (n : ¬ w.W a) : H' a = some (.lst vs) := g.keep a _ h fun z => n (mw a z)
theorem Go.tup (g : Go M w H M' w' H') (mw : ∀ a, M a → w.W a) {a : Addr} {vs : List V} (h : (H a = some (.tup vs) ∧ ¬ w.W a) ∨ KT K a vs) : SqT K H' a vs := h.elim (fun q => SqT.of (g.keep a _ q.1 fun z => q.2 (mw a z))) KT.sq
/-- a list | a tuple | a text that stays -/
theorem walks_lst {M : Addr → Prop} {ds : List D} {a : Addr} {vs : List V} (mw : ∀ a, M a → w.W a) (h : H a = some (.lst vs)) (n : ¬ w.W a) (r : RDs K mg w H ds vs) : Walks_ K mg M w H (Itl K a) ds := by
  refine ⟨_, _, by rw [← r.length]; exact walk_list (K := K) (a := a), fun M' w' H' g => SqL.of (g.lst mw h n), fun i H' x H'' M' w' hi g y _ => ?_⟩
  obtain ⟨rfl, e⟩ := y
  obtain ⟨d, h1, h2⟩ := r.get' e
  exact ⟨d, h1, RD.mono g.e mw _ _ h2, .inl rfl⟩
theorem walks_tup {M : Addr → Prop} {ds : List D} {a : Addr} {vs : List V} (mw : ∀ a, M a → w.W a) (h : (H a = some (.tup vs) ∧ ¬ w.W a) ∨ KT K a vs) (r : RDs K mg w H ds vs) : Walks_ K mg M w H (Itt K a) ds := by
  refine ⟨_, _, by rw [← r.length]; exact walk_tup (K := K) (a := a), fun M' w' H' g => g.tup mw h, fun i H' x H'' M' w' hi g y _ => ?_⟩
  obtain ⟨rfl, e⟩ := y
  obtain ⟨d, h1, h2⟩ := r.get' e
  exact ⟨d, h1, RD.mono g.e mw _ _ h2, .inl rfl⟩
theorem walks_str {M : Addr → Prop} {s : Str} : Walks_ K mg M w H (Its s) (s.cps.toList.map fun c => .str ⟨#[c]⟩) := by
  refine ⟨_, _, by rw [List.length_map, Array.length_toList]; exact walk_str, fun _ _ _ _ => trivial, fun i H' x H'' M' w' hi g y _ => ?_⟩
  obtain ⟨rfl, ch, e, rfl⟩ := y
  exact ⟨.str ⟨#[ch]⟩, by rw [List.getElem?_map, Array.getElem?_toList, e]; rfl, rfl, .inl rfl⟩
theorem si_itr {tg : Expr} (ha : PE X a (rdE X Z C x)) : PI X tg a (rdI X Z C (.itr x)) := by
  have hv := se_val ha
  refine ⟨fun pins s σ H R I q => ?_⟩
  obtain ⟨w, st, rel, p⟩ := q
  have p : (match bnd (fz (evE C x st)) fun d s => lift (items1 d) s with
      | none => False
      | some (.ok items, st1) => ∀ w1 H1 J, Go (Mu w st σ) w H (Mu w1 st1 σ) w1 H1 → Rel X.K X.mg w1 st1 σ H1 → (∀ M, (∀ a, M a → w1.W a) → Walks_ X.K X.mg M w1 H1 J items) → R J H1
      | some (.error x, st') => ∀ cls d w' H', Go (Mu w st σ) w H (Mu w' st' σ) w' H' → Rel X.K X.mg w' st' σ H' → XOk X.mg x cls → Z cls d σ H') := p
  have key : ∀ (d : D) (s1 : St), fz (evE C x st) = some (.ok d, s1) → ∃ items, items1 d = some items ∧ ∀ w1 H1 J, Go (Mu w st σ) w H (Mu w1 s1 σ) w1 H1 → Rel X.K X.mg w1 s1 σ H1 → (∀ M, (∀ a, M a → w1.W a) → Walks_ X.K X.mg M w1 H1 J items) → R J H1 := by
    intro d s1 e
    rw [e] at p
    cases e1 : items1 d with
    | none => simp only [bnd, e1] at p; exact p.elim
    | some items => simp only [bnd, e1] at p; exact ⟨items, rfl, p⟩
  cases e : fz (evE C x st) with
  | none => rw [e] at p; exact p.elim
  | some pr =>
    obtain ⟨r, s1⟩ := pr
    cases r with
    | error er =>
      rw [e] at p
      refine (pi_list (tg := tg) hv).run pins s σ H R I ⟨w, st, rel, ?_⟩
      rw [e]
      exact p
    | ok d =>
      obtain ⟨items, e1, q⟩ := key d s1 e
      cases d with
      | lst ds =>
        cases e1
        refine (pi_list (tg := tg) hv).run pins s σ H R I ⟨w, st, rel, ?_⟩
        rw [e]
        rintro v w1 H1 g rel1 ⟨a', vs, rfl, h1, r⟩
        exact ⟨a', rfl, ⟨vs, SqL.of h1.1⟩, q w1 H1 _ g rel1 fun M mw => walks_lst mw h1.1 h1.2 r⟩
      | tup ds =>
        cases e1
        refine (pi_tup (tg := tg) hv).run pins s σ H R I ⟨w, st, rel, ?_⟩
        rw [e]
        rintro v w1 H1 g rel1 ⟨a', vs, rfl, h1, r⟩
        exact ⟨a', rfl, ⟨vs, sqT_of h1⟩, q w1 H1 _ g rel1 fun M mw => walks_tup mw h1 r⟩
      | str z =>
        cases e1
        refine (pi_str (tg := tg) hv).run pins s σ H R I ⟨w, st, rel, ?_⟩
        rw [e]
        rintro v w1 H1 g rel1 rd
        exact ⟨z, rd, q w1 H1 _ g rel1 fun M mw => walks_str⟩
      | _ => cases e1
/-- a source of one datum | of two -/
theorem rdI_one {op : D → Option (List D)} {f : E} {σ : L2.St} {H : Hp} {R : It → Hp → Prop} (hf : ∀ st, evI C f st = bnd (fz (evE C x st)) fun d s => lift (op d) s) (q : rdI X Z C f σ H R) :
    rdV X Z C x σ H fun v H1 => ∃ w1 st1 d items, Rel X.K X.mg w1 st1 σ H1 ∧ RD X.K X.mg w1 H1 d v ∧ op d = some items ∧ ∀ J, (∀ M, (∀ a, M a → w1.W a) → Walks_ X.K X.mg M w1 H1 J items) → R J H1 := by
  obtain ⟨w, st, rel, p⟩ := q
  rw [hf] at p
  refine ⟨w, st, rel, ?_⟩
  generalize fz (evE C x st) = m at p ⊢
  rcases m with _ | ⟨r | r, s1⟩
  · exact p
  · exact p
  · intro vs w1 H1 g rel1 rd
    cases e : op r with
    | none => simp only [bnd, e] at p; exact p.elim
    | some items => simp only [bnd, e] at p; exact ⟨w1, s1, r, items, rel1, rd, e, fun J => p w1 H1 J g rel1⟩
theorem rdI_two {op : D → D → Option (List D)} {f : E} {σ : L2.St} {H : Hp} {R : It → Hp → Prop} (hf : ∀ st, evI C f st = bnd (fz (evE C x st)) fun d s => bnd (fz (evE C y s)) fun e s => lift (op d e) s) (q : rdI X Z C f σ H R) :
    tCons (rdV X Z C x) (tCons (rdV X Z C y) tNil) σ H fun vs H1 => ∃ u v w1 st1 d e items, vs = [u, v] ∧ Rel X.K X.mg w1 st1 σ H1 ∧ RD X.K X.mg w1 H1 d u ∧ RD X.K X.mg w1 H1 e v ∧ op d e = some items ∧ ∀ J, (∀ M, (∀ a, M a → w1.W a) → Walks_ X.K X.mg M w1 H1 J items) → R J H1 := by
  obtain ⟨w, st, rel, p⟩ := q
  rw [hf] at p
  refine ⟨w, st, rel, ?_⟩
  generalize fz (evE C x st) = m at p ⊢
  rcases m with _ | ⟨r | r, s1⟩
  · exact p
  · exact p
  · intro v w1 H1 g1 rel1 rd1
    refine ⟨w1, s1, rel1, ?_⟩
    simp only [bnd] at p
    generalize fz (evE C y s1) = m at p ⊢
    rcases m with _ | ⟨r2 | r2, s2⟩
    · exact p
    · exact fun cls d w' H' g rel' xo => p cls d w' H' (g1.trans g rel.alloc) rel' xo
    · intro u w2 H2 g2 rel2 rd2
      simp only [bnd] at p
      cases e : op r r2 with
      | none => simp only [e] at p; exact p.elim
      | some items => simp only [e] at p; exact ⟨v, u, w2, s2, r, r2, items, rfl, rel2, rd1.ext rel1 g2.e, rd2, e, fun J => p w2 H2 J (g1.trans g2 rel.alloc) rel2⟩
theorem walks_rng {M : Addr → Prop} {lo : Int} {n : Nat} {items : List D} (e : items = (List.range n).map fun i => D.int (lo + (i : Nat))) : Walks_ K mg M w H (Itr lo n) items := by
  subst e
  refine ⟨_, _, by rw [List.length_map, List.length_range]; exact walk_range, fun _ _ _ _ => trivial, fun i H' x H'' M' w' hi g y _ => ?_⟩
  obtain ⟨rfl, rfl⟩ := y
  rw [List.length_map, List.length_range] at hi
  exact ⟨.int (lo + i), by rw [List.getElem?_map, List.getElem?_range hi]; rfl, rfl, .inl rfl⟩
theorem si_rng1 {tg : Expr} {p : Pos} (hg : Gl X "range") (hm : X.mg "range" = none) (ha : PE X a (rdE X Z C x)) (hs : starEach [a] X.env = [(false, eval a X.env)]) : PI X tg (.Call (.Name "range" p) [a] [] pos) (rdI X Z C (.rng1 x)) := by
  refine piMono (pi_range1 hg hm (pa_cons (se_val ha) pa_nil hs) hs) ?_
  intro σ H R q
  obtain ⟨w, st, rel, p⟩ := rdI_one (op := rng1) (fun _ => rfl) q
  refine ⟨w, st, rel, p.imp ?_⟩
  rintro v H1 ⟨w1, st1, d, items, rel1, rd, e, q⟩
  cases d with
  | int n =>
    obtain ⟨c, e⟩ := gd_some (show gd (small62 n) (some ((List.range n.toNat).map fun i => D.int (i : Nat))) = some items from e)
    cases e
    refine ⟨n, by rw [show v = _ from rd], c.1, c.2, q _ fun M mw => walks_rng ?_⟩
    simp
  | _ => cases e
theorem si_rng2 {tg : Expr} {p : Pos} (hg : Gl X "range") (hm : X.mg "range" = none) (ha : PE X a (rdE X Z C x)) (hb : PE X b (rdE X Z C y)) (hs : starEach [a, b] X.env = [(false, eval a X.env), (false, eval b X.env)]) (hs2 : starEach [b] X.env = [(false, eval b X.env)]) :
    PI X tg (.Call (.Name "range" p) [a, b] [] pos) (rdI X Z C (.rng2 x y)) := by
  refine piMono (pi_range2 hg hm (pa_cons (se_val ha) (pa_cons (se_val hb) pa_nil hs2) (by rw [hs, hs2])) hs hs2) ?_
  intro σ H R q
  have := rdI_two (op := rng2) (fun _ => rfl) q
  obtain ⟨w, st, rel, p⟩ := this
  refine ⟨w, st, rel, p.imp ?_⟩
  rintro v H1 ⟨w1, st1, rel1, p1⟩
  refine ⟨w1, st1, rel1, p1.imp ?_⟩
  rintro u H2 ⟨u', v', w2, st2, d, e, items, e0, rel2, rd1, rd2, e1, q⟩
  cases e0
  unfold rng2 at e1
  split at e1
  · obtain ⟨c1, e2⟩ := gd_some e1
    cases e2
    exact ⟨_, _, by rw [show v = _ from rd1, show u = _ from rd2], ⟨c1.1.1, c1.1.2, c1.2.1, c1.2.2⟩, q _ fun M mw => walks_rng rfl⟩
  · cases e1
/-- a new pair -/
theorem pair_rel {T : Addr} {d e : D} {u v : V} {w' : Wd} {H' : Hp} {M : Addr → Prop} (hT : H' T = none) (al : ∀ b, w'.W b → H' b ≠ none) (h1 : RD K mg w' H' d u) (h2 : RD K mg w' H' e v) : RD K mg w' (upd H' T (.tup [u, v])) (.tup [d, e]) (.ref T) :=
  have g : Ext (fun _ => False) w' H' w' (upd H' T (.tup [u, v])) := (go_new (M := fun _ => False) hT).e
  ⟨T, [u, v], rfl, .inl ⟨upd_same, fun z => al T z hT⟩, u, [v], rfl, RD.mono g (fun _ z => z.elim) _ _ h1, v, [], rfl, RD.mono g (fun _ z => z.elim) _ _ h2, rfl⟩
theorem zip_get {α β : Type} {xs : List α} {ys : List β} {i : Nat} {x : α} {y : β} (h1 : xs[i]? = some x) (h2 : ys[i]? = some y) : (xs.zip ys)[i]? = some (x, y) := by
  rw [List.getElem?_zip_eq_some]
  exact ⟨h1, h2⟩
theorem walkZipT {a b : Addr} {xs ys : List V} {n : Nat} (hn : n = min xs.length ys.length) : Walk (RZ.ItzT K a b) n (fun H => SqT K H a xs ∧ SqT K H b ys) (YPair (fun i => xs[i]?) (fun i => ys[i]?)) := by
  subst hn
  refine ⟨fun i H hi q => ?_, fun H q => ⟨xs, ys, q.1, q.2, by omega⟩, fun i H v H' hi q y => ?_⟩
  · have k1 : i < xs.length := by omega
    have k2 : i < ys.length := by omega
    exact ⟨xs, ys, xs[i], ys[i], q.1, q.2, List.getElem?_eq_getElem k1, List.getElem?_eq_getElem k2⟩
  · obtain ⟨T, x, z, h1, h2, h3, h4, h5⟩ := y
    exact ⟨T, x, z, h1, h2, h3, h4 xs q.1, h5 ys q.2⟩
theorem si_zip {elts : List Expr} {kk : Nat} {tpos p : Pos} (hg : Gl X "zip") (hm : X.mg "zip" = none) (ha : PE X a (rdE X Z C x)) (hb : PE X b (rdE X Z C y)) (hs : starEach [a, b] X.env = (false, eval a X.env) :: starEach [b] X.env) (hs2 : starEach [b] X.env = [(false, eval b X.env)]) (hpl : (backTo pos (starEach [b] X.env)).any (·.1) = false) :
    PI X (.Tuple elts kk tpos) (.Call (.Name "zip" p) [a, b] [] pos) (rdI X Z C (.zip2 x y)) := by
  refine piMono (RZ.pi_zipA hg hm (pa_cons (se_val ha) (pa_cons (se_val hb) pa_nil hs2) hs) hs hpl) ?_
  intro σ H R q
  have := rdI_two (op := zipD) (fun _ => rfl) q
  obtain ⟨w, st, rel, p⟩ := this
  refine ⟨w, st, rel, p.imp ?_⟩
  rintro v H1 ⟨w1, st1, rel1, p1⟩
  refine ⟨w1, st1, rel1, p1.imp ?_⟩
  rintro u H2 ⟨u', v', w2, st2, d, e, items, e0, rel2, rd1, rd2, e1, q⟩
  cases e0
  unfold zipD at e1
  split at e1
  · rename_i xs ys
    cases e1
    obtain ⟨a1, vs, rfl, h1, r1⟩ := rd1
    obtain ⟨a2, us, rfl, h2, r2⟩ := rd2
    refine ⟨a1, a2, vs, us, rfl, .inl ⟨SqL.of h1.1, SqL.of h2.1, q _ fun M mw => ⟨_, _, walk_zip (K := X.K) (a := a1) (b := a2) (xs := vs) (ys := us) ?_, fun M' w' H' g => ⟨SqL.of (g.lst mw h1.1 h1.2), SqL.of (g.lst mw h2.1 h2.2)⟩, fun i H' x H'' M' w' hi g y al => ?_⟩⟩⟩
    · rw [List.length_map, List.length_zip, r1.length, r2.length]
    · obtain ⟨T, x1, x2, rfl, hT, rfl, e1, e2⟩ := y
      obtain ⟨d1, f1, k1⟩ := r1.get' e1
      obtain ⟨d2, f2, k2⟩ := r2.get' e2
      exact ⟨.tup [d1, d2], by rw [List.getElem?_map, zip_get f1 f2]; rfl, pair_rel (M := M') hT al (RD.mono g.e mw _ _ k1) (RD.mono g.e mw _ _ k2), .inr ⟨T, _, hT, noT_tup, rfl⟩⟩
  · rename_i xs ys
    cases e1
    obtain ⟨a1, vs, rfl, h1, r1⟩ := rd1
    obtain ⟨a2, us, rfl, h2, r2⟩ := rd2
    refine ⟨a1, a2, vs, us, rfl, .inr ⟨sqT_of h1, sqT_of h2, q _ fun M mw => ⟨_, _, walkZipT (K := X.K) (a := a1) (b := a2) (xs := vs) (ys := us) ?_, fun M' w' H' g => ⟨g.tup mw h1, g.tup mw h2⟩, fun i H' x H'' M' w' hi g y al => ?_⟩⟩⟩
    · rw [List.length_map, List.length_zip, r1.length, r2.length]
    · obtain ⟨T, x1, x2, rfl, hT, rfl, e1, e2⟩ := y
      obtain ⟨d1, f1, k1⟩ := r1.get' e1
      obtain ⟨d2, f2, k2⟩ := r2.get' e2
      exact ⟨.tup [d1, d2], by rw [List.getElem?_map, zip_get f1 f2]; rfl, pair_rel (M := M') hT al (RD.mono g.e mw _ _ k1) (RD.mono g.e mw _ _ k2), .inr ⟨T, _, hT, noT_tup, rfl⟩⟩
  · cases e1
theorem si_enm {elts : List Expr} {kk : Nat} {tpos p : Pos} (hg : Gl X "enumerate") (hm : X.mg "enumerate" = none) (ha : PE X a (rdE X Z C x)) (hs : starEach [a] X.env = [(false, eval a X.env)]) :
    PI X (.Tuple elts kk tpos) (.Call (.Name "enumerate" p) [a] [] pos) (rdI X Z C (.enm x)) := by
  refine piMono (pi_enum hg hm (pa_cons (se_val ha) pa_nil hs) hs) ?_
  intro σ H R q
  obtain ⟨w, st, rel, p⟩ := rdI_one (op := enmD) (fun _ => rfl) q
  refine ⟨w, st, rel, p.imp ?_⟩
  rintro v H1 ⟨w1, st1, d, items, rel1, rd, e, q⟩
  cases d with
  | lst xs =>
    cases e
    obtain ⟨a1, vs, rfl, h1, r1⟩ := rd
    refine ⟨a1, vs, rfl, SqL.of h1.1, q _ fun M mw => ⟨_, _, by rw [List.length_map, List.length_zipIdx, ← r1.length]; exact walk_enum (K := X.K) (a := a1) (xs := vs), fun M' w' H' g => SqL.of (g.lst mw h1.1 h1.2), fun i H' x H'' M' w' hi g y al => ?_⟩⟩
    obtain ⟨T, x1, x2, rfl, hT, rfl, e1, e2⟩ := y
    cases e1
    obtain ⟨d2, f2, k2⟩ := r1.get' e2
    refine ⟨.tup [.int (i : Nat), d2], ?_, pair_rel (M := M') hT al rfl (RD.mono g.e mw _ _ k2), .inr ⟨T, _, hT, noT_tup, rfl⟩⟩
    rw [List.getElem?_map, List.getElem?_zipIdx, f2]
    simp
  | _ => cases e
theorem si_rev {tg : Expr} {p : Pos} (hg : Gl X "reversed") (hm : X.mg "reversed" = none) (ha : PE X a (rdE X Z C x)) (hs : starEach [a] X.env = [(false, eval a X.env)]) : PI X tg (.Call (.Name "reversed" p) [a] [] pos) (rdI X Z C (.revd x)) := by
  refine piMono (pi_reversed hg hm (pa_cons (se_val ha) pa_nil hs) hs) ?_
  intro σ H R q
  obtain ⟨w, st, rel, p⟩ := rdI_one (op := revD) (fun _ => rfl) q
  refine ⟨w, st, rel, p.imp ?_⟩
  rintro v H1 ⟨w1, st1, d, items, rel1, rd, e, q⟩
  cases d with
  | lst xs =>
    cases e
    obtain ⟨a1, vs, rfl, h1, r1⟩ := rd
    refine ⟨a1, vs, rfl, SqL.of h1.1, q _ fun M mw => ⟨_, _, by rw [List.length_reverse, ← r1.length]; exact walk_rev (K := X.K) (a := a1) (xs := vs), fun M' w' H' g => SqL.of (g.lst mw h1.1 h1.2), fun i H' x H'' M' w' hi g y al => ?_⟩⟩
    obtain ⟨rfl, e2⟩ := y
    rw [List.length_reverse] at hi
    obtain ⟨d2, f2, k2⟩ := r1.get' e2
    refine ⟨d2, ?_, RD.mono g.e mw _ _ k2, .inl rfl⟩
    rw [List.getElem?_reverse hi, ← r1.length]
    exact f2
  | _ => cases e
end
end Pi

set_option Elab.async false
set_option linter.all false
set_option maxRecDepth 100000
set_option maxHeartbeats 1000000
/-! PiComp: comprehensions. -/
namespace Pi
open PySem L2
section
variable {X : Cx} {Z : WX} {C : Cfg} {a b c : Expr} {x y z : E} {pos : Pos} {es : List Expr}
variable {M M' : Addr → Prop} {K : PySem.W.Frag} {mg : Str → Option Value} {w w' w1 w2 : Wd} {H H' H1 H2 : Hp} {st st' st1 st2 : St} {σ σ' : L2.St}

/-! ### slots forgotten, and set back -/
theorem wipeE_length (e : List Sl) : ∀ vs : List Nat, (wipeE e vs).length = e.length
  | [] => rfl
  | v :: vs => by unfold wipeE; rw [List.length_set, wipeE_length e vs]
theorem wipeE_in {e : List Sl} {i : Nat} {s : Sl} : ∀ {vs : List Nat}, i ∈ vs → (wipeE e vs)[i]? = some s → s = .no
  | v :: vs, h, q => by
    unfold wipeE at q
    by_cases hv : v = i
    · subst hv
      by_cases hl : v < (wipeE e vs).length
      · rw [List.getElem?_set_self hl] at q; cases q; rfl
      · rw [List.getElem?_eq_none (by simpa using hl)] at q; cases q
    · rw [List.getElem?_set_ne hv] at q
      rcases List.mem_cons.mp h with z | h
      · exact absurd z.symm hv
      · exact wipeE_in h q
theorem wipeE_out {e : List Sl} {i : Nat} : ∀ {vs : List Nat}, i ∉ vs → (wipeE e vs)[i]? = e[i]?
  | [], _ => rfl
  | v :: vs, h => by
    unfold wipeE
    rw [List.getElem?_set_ne (fun z => h (by rw [z]; exact List.mem_cons_self))]
    exact wipeE_out fun z => h (List.mem_cons_of_mem _ z)
theorem backE_length (o e : List Sl) : ∀ vs : List Nat, (backE o e vs).length = e.length
  | [] => rfl
  | v :: vs => by unfold backE; rw [List.length_set, backE_length o e vs]
theorem backE_in {o e : List Sl} {i : Nat} {s : Sl} : ∀ {vs : List Nat}, i ∈ vs → (backE o e vs)[i]? = some s → s = Sl.at o i
  | v :: vs, h, q => by
    unfold backE at q
    by_cases hv : v = i
    · subst hv
      by_cases hl : v < (backE o e vs).length
      · rw [List.getElem?_set_self hl] at q; cases q; rfl
      · rw [List.getElem?_eq_none (by simpa using hl)] at q; cases q
    · rw [List.getElem?_set_ne hv] at q
      rcases List.mem_cons.mp h with z | h
      · exact absurd z.symm hv
      · exact backE_in h q
theorem backE_out {o e : List Sl} {i : Nat} : ∀ {vs : List Nat}, i ∉ vs → (backE o e vs)[i]? = e[i]?
  | [], _ => rfl
  | v :: vs, h => by
    unfold backE
    rw [List.getElem?_set_ne (fun z => h (by rw [z]; exact List.mem_cons_self))]
    exact backE_out fun z => h (List.mem_cons_of_mem _ z)
theorem wipe_in {σ : L2.St} {i : Nat} {u : V} : ∀ {vs : List Nat}, i ∈ vs → (wipe σ vs)[i]? ≠ some (some u) := fun {vs} h q => (wipe_some q).2 h
/-- the state of a block's turn -/
def wst (st : St) (vs : List Nat) : St := { st with env := wipeE st.env vs }
theorem own_wipe {vs : List Nat} {i : Nat} {b : Addr} : OwnAt (wst st vs) (wipe σ vs) i b → OwnAt st σ i b ∧ i ∉ vs := by
  rintro ⟨ys, e1, e2⟩
  have e1 : (wipeE st.env vs)[i]? = some (.own ys) := e1
  by_cases h : i ∈ vs
  · cases wipeE_in h e1
  · rw [wipeE_out h] at e1
    rw [wipe_out h] at e2
    exact ⟨⟨ys, e1, e2⟩, h⟩
theorem mu_wipe {vs : List Nat} {b : Addr} (h : Mu w (wst st vs) (wipe σ vs) b) : Mu w st σ b := by
  rcases h with h | ⟨i, h⟩
  · exact .inl h
  · exact .inr ⟨i, (own_wipe h).1⟩
theorem Rel.wipe {vs : List Nat} (r : Rel K mg w st σ H) : Rel K mg w (wst st vs) (L2.wipe σ vs) H where
  len := by show (L2.wipe σ vs).length = (wipeE st.env vs).length; rw [wipe_length, wipeE_length]; exact r.len
  val := fun i d e => by
    have e : (wipeE st.env vs)[i]? = some (.val d) := e
    by_cases h : i ∈ vs
    · cases wipeE_in h e
    · rw [wipeE_out h] at e
      rw [wipe_out h]
      exact r.val i d e
  own := fun i ys e => by
    have e : (wipeE st.env vs)[i]? = some (.own ys) := e
    by_cases h : i ∈ vs
    · cases wipeE_in h e
    · rw [wipeE_out h] at e
      rw [wipe_out h]
      exact r.own i ys e
  inj := fun i j b e1 e2 => r.inj i j b (own_wipe e1).1 (own_wipe e2).1
  cell := r.cell
  tab := r.tab
  stray := r.stray
  slen := r.slen
  nd := r.nd
  alloc := r.alloc
theorem wipe_off {vs l : List Nat} {σ2 : L2.St} (h : Off l (wipe σ vs) σ2) (hl : ∀ i ∈ l, i ∈ vs) : wipe σ2 vs = wipe σ vs := by
  apply List.ext_getElem?
  intro i
  have len : σ2.length = σ.length := by rw [h.1, wipe_length]
  by_cases hi : i ∈ vs
  · by_cases hlen : i < σ.length
    · have k1 : ∀ {τ : L2.St}, i < τ.length → (wipe τ vs)[i]? = some none := by
        intro τ ht
        have : i < (wipe τ vs).length := by rw [wipe_length]; exact ht
        rw [List.getElem?_eq_getElem this]
        cases q : (wipe τ vs)[i] with
        | none => rfl
        | some u => exact absurd (by rw [List.getElem?_eq_getElem this, q]) (wipe_in (u := u) hi)
      rw [k1 (by omega), k1 hlen]
    · rw [List.getElem?_eq_none (by rw [wipe_length]; omega), List.getElem?_eq_none (by rw [wipe_length]; omega)]
  · rw [wipe_out hi, h.2 i fun z => hi (hl i z)]
/-- behind the block -/
theorem Rel.back {vs : List Nat} {s1 s2 : St} (r1 : Rel K mg w1 s1 σ H1) (free : freeOf s1.env vs = true) (r : Rel K mg w (wst s2 vs) (L2.wipe σ vs) H) (g : Ext (Mu w1 s1 σ) w1 H1 w H) :
    Rel K mg w { s2 with env := backE s1.env s2.env vs } σ H ∧ ∀ b, Mu w { s2 with env := backE s1.env s2.env vs } σ b → Mu w (wst s2 vs) (L2.wipe σ vs) b := by
  have noOwn : ∀ i ∈ vs, ∀ ys, Sl.at s1.env i ≠ .own ys := by
    intro i hi ys e
    have := List.all_eq_true.mp free i hi
    rw [e] at this
    cases this
  have own0 : ∀ {i b}, OwnAt { s2 with env := backE s1.env s2.env vs } σ i b → OwnAt (wst s2 vs) (L2.wipe σ vs) i b := by
    rintro i b ⟨ys, e1, e2⟩
    have e1 : (backE s1.env s2.env vs)[i]? = some (.own ys) := e1
    by_cases h : i ∈ vs
    · exact absurd (backE_in h e1).symm (noOwn i h ys)
    · rw [backE_out h] at e1
      exact ⟨ys, by show (wipeE s2.env vs)[i]? = _; rw [wipeE_out h]; exact e1, by rw [wipe_out h]; exact e2⟩
  have len0 : σ.length = s2.env.length := by
    have := r.len
    rw [wipe_length] at this
    rw [this]; exact wipeE_length _ _
  refine ⟨⟨by show σ.length = (backE _ _ _).length; rw [backE_length]; exact len0, fun i d e => ?_, fun i ys e => ?_, fun i j b e1 e2 => r.inj i j b (own0 e1) (own0 e2), r.cell, r.tab, r.stray, r.slen, r.nd, r.alloc⟩, fun b h => ?_⟩
  · have e : (backE s1.env s2.env vs)[i]? = some (.val d) := e
    by_cases h : i ∈ vs
    · have q := (backE_in h e).symm
      obtain ⟨v, h1, h2⟩ := r1.val i d (at_some q (by intro z; cases z))
      exact ⟨v, h1, h2.ext r1 g⟩
    · rw [backE_out h] at e
      obtain ⟨v, h1, h2⟩ := r.val i d (by show (wipeE s2.env vs)[i]? = _; rw [wipeE_out h]; exact e)
      rw [wipe_out h] at h1
      exact ⟨v, h1, h2⟩
  · have e : (backE s1.env s2.env vs)[i]? = some (.own ys) := e
    by_cases h : i ∈ vs
    · exact absurd (backE_in h e).symm (noOwn i h ys)
    · rw [backE_out h] at e
      obtain ⟨v, vs', h1, h2⟩ := r.own i ys (by show (wipeE s2.env vs)[i]? = _; rw [wipeE_out h]; exact e)
      rw [wipe_out h] at h1
      exact ⟨v, vs', h1, h2⟩
  · rcases h with h | ⟨i, h⟩
    · exact .inl h
    · exact .inr ⟨i, own0 h⟩

/-- the list that is made is added to -/
theorem Rel.grow (r : Rel K mg w st σ H) {D : Addr} {vs us : List V} (hD : H D = some (.lst vs)) (hw : w.W D) (hm : ¬ Mu w st σ D) : Rel K mg w st σ (upd H D (.lst us)) := by
  have g : Ext (fun b => b = D) w H w (upd H D (.lst us)) := ⟨fun b u e n => by rw [upd_ne n]; exact e, fun _ q => .inl q, List.prefix_refl _⟩
  have mw : ∀ b, b = D → w.W b := fun b e => by rw [e]; exact hw
  refine ⟨r.len, fun i d e => ?_, fun i ys e => ?_, r.inj, fun n ys e c => ?_, fun n ys x e c => ?_, fun b ps hb => r.stray b ps (upd_tbl noT_lst b ps hb), r.slen, r.nd, fun b hb => ?_⟩
  · obtain ⟨v, h1, h2⟩ := r.val i d e
    exact ⟨v, h1, RD.mono g mw _ _ h2⟩
  · obtain ⟨b, ws, h1, h2, h3, h4, h5⟩ := r.own i ys e
    exact ⟨b, ws, h1, by rw [upd_ne (fun z => by subst z; exact hm (.inr ⟨i, ys, e, h1⟩))]; exact h2, h3, h4, RDs.mono g mw _ _ h5⟩
  · obtain ⟨b, ws, h1, h2, h3, h4⟩ := r.cell n ys e c
    exact ⟨b, ws, h1, by rw [upd_ne (fun z => by subst z; exact hm (.inl (List.mem_of_getElem? h1)))]; exact h2, h3, RDs.mono g mw _ _ h4⟩
  · obtain ⟨b, h1, h2, h3⟩ := r.tab n ys x e c
    exact ⟨b, h1, h2, h3.upd hD⟩
  · by_cases z : b = D
    · rw [z, upd_same]; intro q; cases q
    · rw [upd_ne z]; exact r.alloc b hb
theorem go_grow {D : Addr} {us : List V} (g : Go M w1 H1 M' w H) (hD : H1 D = none) : Go M w1 H1 M' w (upd H D (.lst us)) :=
  ⟨fun b u e n => by rw [upd_ne (ne_of_none e hD)]; exact g.keep b u e n, fun b e => by
    by_cases z : b = D
    · rw [z, upd_same]; intro q; cases q
    · rw [upd_ne z]; exact g.there b e, g.wsub, g.msub, g.wsup, g.pre⟩
theorem Go.mu {M2 : Addr → Prop} (g : Go M w1 H1 M' w H) (h : ∀ b, M2 b → M' b) : Go M w1 H1 M2 w H := ⟨g.keep, g.there, g.wsub, fun b q => g.msub b (h b q), g.wsup, g.pre⟩
/-- D is kept by what may not touch it -/
theorem Go.stays {D : Addr} {o : HO} (g : Go M w H M' w' H') (hD : H D = some o) (hw : w.W D) (hm : ¬ M D) : H' D = some o ∧ w'.W D ∧ ¬ M' D :=
  ⟨g.keep D o hD hm, g.wsup D hw hm, fun z => (g.msub D z).elim hm fun e => by rw [hD] at e; cases e⟩

/-- what may change, with the list that is made -/
def ML (w : Wd) (st : St) (σ : L2.St) (L : Addr) (a : Addr) : Prop := Mu w st σ a ∨ a = L
/-- where a comprehension's turns stand: L holds what is made so far; base: M1, w1, H1 -/
structure Turn_ (K : PySem.W.Frag) (mg : Str → Option Value) (M1 : Addr → Prop) (w1 : Wd) (H1 : Hp) (σ : L2.St) (vs : List Nat) (L : Addr) (w : Wd) (s : St) (H : Hp) (acc : List D) : Prop where
  go : Go M1 w1 H1 (ML w (wst s vs) (wipe σ vs) L) w H
  rel : Rel K mg w (wst s vs) (wipe σ vs) H
  made : ∃ us, H L = some (.lst us) ∧ RDs K mg w H acc us
  mark : w.W L
  apart : ¬ Mu w (wst s vs) (wipe σ vs) L
/-- a turn's end: what was reached from the turn's start -/
theorem Go.ml {s1 s2 : St} {σ1 σ2 : L2.St} {L : Addr} {o : HO} (g : Go (Mu w s1 σ1) w H (Mu w' s2 σ2) w' H') (hL : H L = some o) (hw : w.W L) (hm : ¬ Mu w s1 σ1 L) : Go (ML w s1 σ1 L) w H (ML w' s2 σ2 L) w' H' where
  keep := fun a u e n => g.keep a u e fun z => n (.inl z)
  there := g.there
  wsub := g.wsub
  msub := fun a h => by
    rcases h with h | h
    · exact (g.msub a h).imp .inl id
    · exact .inl (.inr h)
  wsup := fun a h n => g.wsup a h fun z => n (.inl z)
  pre := g.pre
variable {M1 : Addr → Prop}
theorem Turn_.next {vs : List Nat} {L : Addr} {s2 s3 : St} {σ2 : L2.St} {H3 : Hp} {w3 : Wd} {acc : List D} (al : ∀ a, w1.W a → H1 a ≠ none) (T : Turn_ K mg M1 w1 H1 σ vs L w s2 H acc)
    (g : Go (Mu w (wst s2 vs) (wipe σ vs)) w H (Mu w3 s3 σ2) w3 H3) (rel : Rel K mg w3 s3 σ2 H3) (hw : wipe σ2 vs = wipe σ vs) : Turn_ K mg M1 w1 H1 σ vs L w3 s3 H3 acc := by
  obtain ⟨us, h1, h2⟩ := T.made
  obtain ⟨k1, k2, k3⟩ := g.stays h1 T.mark T.apart
  have sub : ∀ b, Mu w3 (wst s3 vs) (wipe σ vs) b → Mu w3 s3 σ2 b := fun b h => by rw [← hw] at h; exact mu_wipe h
  refine ⟨(T.go.trans (g.ml h1 T.mark T.apart) al).mu fun b h => h.imp (sub b) id, by rw [← hw]; exact rel.wipe, ⟨us, k1, h2.ext T.rel g.e⟩, k2, fun z => k3 (sub L z)⟩
theorem Turn_.push {vs : List Nat} {L : Addr} {s : St} {acc : List D} {d : D} {v : V} {us : List V} (T : Turn_ K mg M1 w1 H1 σ vs L w s H acc) (hL : M1 L) (h : H L = some (.lst us)) (rd : RD K mg w H d v) : Turn_ K mg M1 w1 H1 σ vs L w s (upd H L (.lst (us ++ [v]))) (acc ++ [d]) := by
  obtain ⟨us', h1, h2⟩ := T.made
  rw [h] at h1; cases h1
  have g : Ext (fun b => b = L) w H w (upd H L (.lst (us ++ [v]))) := ⟨fun b u e n => by rw [upd_ne n]; exact e, fun _ q => .inl q, List.prefix_refl _⟩
  have mw : ∀ b, b = L → w.W b := fun b e => by rw [e]; exact T.mark
  have g2 : Go M1 w1 H1 (ML w (wst s vs) (wipe σ vs) L) w (upd H L (.lst (us ++ [v]))) :=
    ⟨fun b u e n => by rw [upd_ne (fun z => by subst z; exact n hL)]; exact T.go.keep b u e n, fun b e => by
      by_cases z : b = L
      · rw [z, upd_same]; intro q; cases q
      · rw [upd_ne z]; exact T.go.there b e, T.go.wsub, T.go.msub, T.go.wsup, T.go.pre⟩
  exact ⟨g2, T.rel.grow h T.mark T.apart, ⟨_, upd_same, (RDs.mono g mw _ _ h2).append ⟨v, [], rfl, RD.mono g mw _ _ rd, rfl⟩⟩, T.mark, T.apart⟩

/-! ### one clause -/
abbrev Z0 : WX := fun _ _ _ _ => False
theorem lcGo_cons {vs : List Nat} {t : T} {c e : St → Rs Rv} {d : D} {r acc out : List D} {s s' : St} (h : lcGo vs t c e (d :: r) acc s = some (.ok out, s')) :
    ∃ env b s1, bindT t d (wipeE s.env vs) = some env ∧ c { s with env := env } = some (.ok (.val (.bl b)), s1) ∧
      ((b = true ∧ ∃ y s2, e s1 = some (.ok y, s2) ∧ acc.length < szL ∧ lcGo vs t c e r (acc ++ [y.d]) s2 = some (.ok out, s')) ∨ (b = false ∧ lcGo vs t c e r acc s1 = some (.ok out, s'))) := by
  unfold lcGo at h
  cases e1 : bindT t d (wipeE s.env vs) with
  | none => rw [e1] at h; cases h
  | some env =>
    rw [e1] at h
    refine ⟨env, ?_⟩
    simp only at h
    generalize hc : c { s with env := env } = mc at h
    split at h
    · rename_i s1
      refine ⟨true, s1, rfl, rfl, .inl ⟨rfl, ?_⟩⟩
      generalize he : e s1 = me at h
      split at h
      · rename_i y s2
        obtain ⟨c1, h⟩ := gd_some h
        exact ⟨y, s2, rfl, c1, h⟩
      · cases h
    · rename_i s1
      exact ⟨false, s1, rfl, rfl, .inr ⟨rfl, h⟩⟩
    · cases h
theorem lcGo_noerr {vs : List Nat} {t : T} {c e : St → Rs Rv} : ∀ {r acc : List D} {s s' : St} {x : Xc}, lcGo vs t c e r acc s ≠ some (.error x, s')
  | [], acc, s, s', x, h => by cases h
  | d :: r, acc, s, s', x, h => by
    unfold lcGo at h
    split at h
    · cases h
    · split at h
      · split at h
        · exact lcGo_noerr (gd_some h).2
        · cases h
      · exact lcGo_noerr h
      · cases h
/-- the items of a walk, turn by turn -/
theorem item_rel {items : List D} {vs : List Nat} {L : Addr} {s : St} {acc : List D} {Y : Nat → Hp → V → Hp → Prop} {i : Nat} {v : V} {H2 : Hp}
    (hy : ∀ i H' x H'' M' w', i < items.length → Go M1 w1 H1 M' w' H' → Y i H' x H'' → (∀ b, w'.W b → H' b ≠ none) → ∃ d, items[i]? = some d ∧ RD K mg w' H'' d x ∧ (H'' = H' ∨ ∃ T o, H' T = none ∧ NoT o ∧ H'' = upd H' T o))
    (al : ∀ a, w1.W a → H1 a ≠ none) (T : Turn_ K mg M1 w1 H1 σ vs L w s H acc) (hi : i < items.length) (y : Y i H v H2) : ∃ d, items[i]? = some d ∧ RD K mg w H2 d v ∧ Turn_ K mg M1 w1 H1 σ vs L w s H2 acc := by
  obtain ⟨d, h1, h2, h3⟩ := hy i H v H2 _ w hi T.go y T.rel.alloc
  refine ⟨d, h1, h2, ?_⟩
  rcases h3 with rfl | ⟨A, o, hA, hn, rfl⟩
  · exact T
  · obtain ⟨us, k1, k2⟩ := T.made
    have g : Go (ML w (wst s vs) (wipe σ vs) L) w H (ML w (wst s vs) (wipe σ vs) L) w (upd H A o) := go_new hA
    have g2 : Go (Mu w (wst s vs) (wipe σ vs)) w H (Mu w (wst s vs) (wipe σ vs)) w (upd H A o) := go_new hA
    exact ⟨T.go.trans g al, T.rel.new hA hn, ⟨us, by rw [upd_ne (ne_of_none k1 hA)]; exact k1, k2.ext T.rel g2.e⟩, T.mark, T.apart⟩
theorem drop_cons {α : Type} {l : List α} {i : Nat} {d : α} (h : l[i]? = some d) : l.drop i = d :: l.drop (i + 1) := by
  obtain ⟨hi, e⟩ := List.getElem?_eq_some_iff.mp h
  rw [← e]
  exact List.drop_eq_getElem_cons hi

section
variable {elt tg iter : Expr} {ifs : List Expr} {scope : Scope} {own : List (Str × Nat)} {src cnd ex : E} {t : T}
/-- one clause's turns, from the walk -/
theorem comp_turns {te : TE} {tt : TT} {J : It} {items acc0 : List D} {vs : List Nat} {L : Addr} {s0 sE : St} {out : List D} {w0 : Wd} {H0 : Hp} {Qd : Hp → Prop}
    (al : ∀ a, w1.W a → H1 a ≠ none) (hL : M1 L) (wk : Walks_ X.K X.mg M1 w1 H1 J items) (hsl : ∀ i ∈ t.sl, i ∈ vs)
    (htt : ∀ σ H Q, rdB X Z0 C cnd σ H Q → tt σ H Q) (hte : ∀ σ H Q, rdV X Z0 C ex σ H Q → te σ H Q)
    (T0 : Turn_ X.K X.mg M1 w1 H1 σ vs L w0 s0 H0 acc0) (h : lcGo vs t (evE C cnd) (evE C ex) items acc0 s0 = some (.ok out, sE))
    (fin : ∀ w H, Turn_ X.K X.mg M1 w1 H1 σ vs L w sE H out → Qd H) :
    ∃ W : Nat → Nat → Hp → Prop, (∃ m, W 0 m H0) ∧ ∀ i m H, W i m H →
      (J.stop i H ∧ Qd H) ∨ (J.go i H ∧ ∃ Nx : Hp → Prop, (∀ H', Nx H' → ∃ m', m' < m ∧ W (i + 1) m' H') ∧ ∀ x H', J.yld i H x H' → rdG X t x (wipe σ vs) H' fun σ2 H2 => wipe σ2 vs = wipe σ vs ∧ tt σ2 H2 fun b H3 =>
        if b = true then te σ2 H3 fun y H4 => ∃ acc, H4 L = some (.lst acc) ∧ acc.length < sizeLine ∧ Nx (upd H4 L (.lst (acc ++ [y]))) else Nx H3) := by
  obtain ⟨G, Y, wk, hG, hY⟩ := wk
  let Pv : Nat → Hp → Prop := fun i H => ∃ w s acc, Turn_ X.K X.mg M1 w1 H1 σ vs L w s H acc ∧ lcGo vs t (evE C cnd) (evE C ex) (items.drop i) acc s = some (.ok out, sE)
  refine ⟨fun i m H => m = items.length - i ∧ i ≤ items.length ∧ Pv i H, ⟨items.length, by simp, Nat.zero_le _, w0, s0, acc0, T0, h⟩, ?_⟩
  rintro i m H ⟨rfl, hi, w, s, acc, T, hl⟩
  have q := hG _ w H T.go
  by_cases hlt : i < items.length
  · refine .inr ⟨wk.goes i H hlt q, Pv (i + 1), fun H' p' => ⟨items.length - (i + 1), by omega, rfl, hlt, p'⟩, fun v H' y => ?_⟩
    obtain ⟨d, e1, rd, T'⟩ := item_rel hY al T hlt (wk.yields i H v H' hlt q y)
    rw [drop_cons e1] at hl
    obtain ⟨env, b, s1, k1, k2, k3⟩ := lcGo_cons hl
    refine ⟨w, wst s vs, d, env, T'.rel, rd, k1, fun σ2 off g2 rel2 => ⟨wipe_off off hsl, htt _ _ _ ?_⟩⟩
    refine ⟨w, _, rel2, ?_⟩
    rw [show evE C cnd { wst s vs with env := env } = some (.ok (.val (.bl b)), s1) from k2]
    intro b' w3 H3 g3 rel3 eb
    have eb : b = b' := eb
    subst eb
    rcases k3 with ⟨rfl, yv, s2, k4, k5, k6⟩ | ⟨rfl, k4⟩
    · rw [if_pos rfl]
      refine hte _ _ _ ⟨w3, s1, rel3, ?_⟩
      rw [k4]
      intro v4 w4 H4 g4 rel4 rd4
      have T4 : Turn_ X.K X.mg M1 w1 H1 σ vs L w4 s2 H4 acc := T'.next al ((g2.trans g3 T'.rel.alloc).trans g4 T'.rel.alloc) rel4 (wipe_off off hsl)
      obtain ⟨us, m1, m2⟩ := T4.made
      exact ⟨us, m1, by rw [m2.length, ← szL_eq]; exact k5, w4, s2, acc ++ [yv.d], T4.push hL m1 rd4, k6⟩
    · rw [if_neg Bool.false_ne_true]
      exact ⟨w3, s1, acc, T'.next al (g2.trans g3 T'.rel.alloc) rel3 (wipe_off off hsl), k4⟩
  · have e : i = items.length := by omega
    subst e
    rw [List.drop_length] at hl
    cases hl
    exact .inl ⟨wk.stops H q, fin w H T⟩

/-- the base of a new comprehension: the list is laid -/
theorem comp_start {J : It} {items : List D} {vs : List Nat} {L : Addr} {w0 : Wd} {st0 : St} {H0 : Hp} (r1 : Rel X.K X.mg w1 st1 σ H1) (wk : ∀ M, (∀ a, M a → w1.W a) → Walks_ X.K X.mg M w1 H1 J items) (hL : H1 L = none) :
    (∀ a, (w1.add L).W a → upd H1 L (.lst []) a ≠ none) ∧ ML (w1.add L) (wst st1 vs) (wipe σ vs) L L ∧ Walks_ X.K X.mg (ML (w1.add L) (wst st1 vs) (wipe σ vs) L) (w1.add L) (upd H1 L (.lst [])) J items ∧
      Turn_ X.K X.mg (ML (w1.add L) (wst st1 vs) (wipe σ vs) L) (w1.add L) (upd H1 L (.lst [])) σ vs L (w1.add L) st1 (upd H1 L (.lst [])) [] ∧ Go (Mu w1 st1 σ) w1 H1 (ML (w1.add L) (wst st1 vs) (wipe σ vs) L) (w1.add L) (upd H1 L (.lst [])) := by
  have ra := r1.add (o := .lst []) hL noT_lst
  have g0 : Go (Mu w1 st1 σ) w1 H1 (ML (w1.add L) (wst st1 vs) (wipe σ vs) L) (w1.add L) (upd H1 L (.lst [])) := by
    have g := go_add (M := Mu w1 st1 σ) (w := w1) (o := HO.lst []) hL
    refine ⟨g.keep, g.there, g.wsub, fun b h => ?_, g.wsup, g.pre⟩
    rcases h with h | h
    · exact .inl (mu_wipe (w := w1) h)
    · exact .inr (by rw [h]; exact hL)
  obtain ⟨G, Y, k1, k2, k3⟩ := wk (Mu w1 st1 σ) fun _ => r1.muW
  refine ⟨ra.alloc, .inr rfl, ⟨G, Y, k1, fun M' w' H' g => k2 M' w' H' (g0.trans g r1.alloc), fun i H' x H'' M' w' hi g => k3 i H' x H'' M' w' hi (g0.trans g r1.alloc)⟩, ⟨Go.refl, ra.wipe, ⟨[], upd_same, rfl⟩, .inr rfl, fun h => ?_⟩, g0⟩
  exact r1.alloc L (r1.muW (mu_wipe (w := w1) h)) hL
/-- the end of a comprehension -/
theorem comp_fin {vs : List Nat} {L : Addr} {w0 : Wd} {st0 sE : St} {H0 : Hp} {out : List D} {Q : VK} {M0 : Addr → Prop} (rel : Rel X.K X.mg w0 st0 σ H0) (r1 : Rel X.K X.mg w1 st1 σ H1) (g1 : Go (Mu w0 st0 σ) w0 H0 (Mu w1 st1 σ) w1 H1) (free : freeOf st1.env vs = true) (hL : H1 L = none)
    (g0 : Go (Mu w1 st1 σ) w1 H1 M1 w2 H2) (T : Turn_ X.K X.mg M1 w2 H2 σ vs L w sE H out)
    (p : Post X.K X.mg Z (RV_ X.K X.mg) σ H0 w0 st0 (okk (Rv.new out) { sE with env := backE st1.env sE.env vs }) Q) : Q (.ref L) H := by
  have g2 : Go (Mu w1 st1 σ) w1 H1 (ML w (wst sE vs) (wipe σ vs) L) w H := g0.trans T.go r1.alloc
  obtain ⟨rb, mb⟩ := r1.back free T.rel g2.e
  have g3 : Go (Mu w1 st1 σ) w1 H1 (Mu w { sE with env := backE st1.env sE.env vs } σ) w H := g2.mu fun b h => .inl (mb b h)
  obtain ⟨us, h1, h2⟩ := T.made
  exact p _ w H (g1.trans g3 rel.alloc) rb ⟨L, us, rfl, h1, T.mark, fun z => T.apart (mb L z), g1.fresh hL, h2⟩
theorem se_comp (hc : X.calm = true) (hN : X.N.Nodup) (ok : BlkOk X.N X.env.scope scope own) (hsl : ∀ i ∈ t.sl, i ∈ own.map (·.2)) (hi : PI X tg iter (rdI X Z C src))
    (hg : ∀ (s : Shared) (H : Hp) (Ca : Addr) (cl : List (Str × Addr)) (fp : List Addr), PG (X.blk s H scope (compEnvC scope cl Ca X.env) fp) tg (rdG X t)) {tt : TT} (htt : ∀ σ H Q, rdB X Z0 C cnd σ H Q → tt σ H Q)
    (ht : ∀ (s : Shared) (H : Hp) (Ca : Addr) (cl : List (Str × Addr)) (fp : List Addr), PTs (X.blk s H scope (compEnvC scope cl Ca X.env) fp) ifs tt)
    (he : ∀ (s : Shared) (H : Hp) (Ca : Addr) (cl : List (Str × Addr)) (fp : List Addr), PE (X.blk s H scope (compEnvC scope cl Ca X.env) fp) elt (rdE X Z0 C ex)) (hs : ∀ x, foldedSetIterable iter X.env x = pure x) :
    (∀ σ H (Q : VK), rdE X Z C (.comp (own.map (·.2)) ex t src cnd) σ H Q → tLc (rdI X Z C src) (rdG X t) tt (rdV X Z0 C ex) (own.map (·.2)) σ H Q) ∧ PE X (.ListComp elt [⟨tg, iter, ifs, 0⟩] scope pos) (rdE X Z C (.comp (own.map (·.2)) ex t src cnd)) := by
  have key : ∀ σ H (Q : VK), rdE X Z C (.comp (own.map (·.2)) ex t src cnd) σ H Q → tLc (rdI X Z C src) (rdG X t) tt (rdV X Z0 C ex) (own.map (·.2)) σ H Q := by
    rintro σ H Q ⟨w, st, rel, p⟩
    have p : Post X.K X.mg Z (RV_ X.K X.mg) σ H w st (bnd (evI C src st) fun items s => gd (freeOf s.env (own.map (·.2)) = true)
      (bnd (lcGo (own.map (·.2)) t (evE C cnd) (evE C ex) items [] s) fun ds s' => okk (Rv.new ds) { s' with env := backE s.env s'.env (own.map (·.2)) })) Q := p
    refine ⟨w, st, rel, ?_⟩
    generalize evI C src st = m at p ⊢
    rcases m with _ | ⟨r | items, st1⟩
    · exact p
    · exact p
    · intro w1 H1 J g1 rel1 wk L hL
      have p : Post X.K X.mg Z (RV_ X.K X.mg) σ H w st (gd (freeOf st1.env (own.map (·.2)) = true)
        (bnd (lcGo (own.map (·.2)) t (evE C cnd) (evE C ex) items [] st1) fun ds s' => okk (Rv.new ds) { s' with env := backE st1.env s'.env (own.map (·.2)) })) Q := p
      by_cases free : freeOf st1.env (own.map (·.2)) = true
      · rw [show ∀ m : Rs Rv, gd (freeOf st1.env (own.map (·.2)) = true) m = m from fun m => if_pos free] at p
        cases e : lcGo (own.map (·.2)) t (evE C cnd) (evE C ex) items [] st1 with
        | none => rw [e] at p; exact p.elim
        | some pr =>
          obtain ⟨r, sE⟩ := pr
          cases r with
          | error x => exact absurd e lcGo_noerr
          | ok out =>
            rw [e] at p
            obtain ⟨k1, k2, k3, k4, k5⟩ := comp_start (w0 := w) (st0 := st) (H0 := H) (vs := own.map (·.2)) rel1 wk hL
            exact comp_turns k1 k2 k3 hsl htt (fun _ _ _ q => q) k4 e fun w' H' T => comp_fin (M0 := fun _ => False) rel rel1 g1 free hL k5 T p
      · rw [show ∀ m : Rs Rv, gd (freeOf st1.env (own.map (·.2)) = true) m = none from fun m => if_neg free] at p
        exact p.elim
  exact ⟨key, peMono (pe_lc hc hN hi ok hg ht (fun s H Ca cl fp => se_val (he s H Ca cl fp)) hs) key⟩

/-! ### two clauses -/
theorem wipe_wipe {vs vs2 : List Nat} (h : ∀ i ∈ vs2, i ∈ vs) : wipe (wipe σ vs2) vs = wipe σ vs := by
  refine wipe_off (l := vs) (σ := σ) (vs := vs) (σ2 := wipe σ vs2) ⟨by rw [wipe_length, wipe_length], fun i hi => ?_⟩ fun _ h => h
  rw [wipe_out hi, wipe_out fun z => hi (h i z)]
theorem wipeE_wipeE {e : List Sl} {vs vs2 : List Nat} (h : ∀ i ∈ vs2, i ∈ vs) : wipeE (wipeE e vs2) vs = wipeE e vs := by
  apply List.ext_getElem?
  intro i
  by_cases hi : i ∈ vs
  · by_cases hl : i < e.length
    · have k : ∀ {f : List Sl}, i < f.length → (wipeE f vs)[i]? = some .no := by
        intro f hf
        have : i < (wipeE f vs).length := by rw [wipeE_length]; exact hf
        rw [List.getElem?_eq_getElem this]
        exact congrArg some (wipeE_in hi (List.getElem?_eq_getElem this))
      rw [k (by rw [wipeE_length]; exact hl), k hl]
    · rw [List.getElem?_eq_none (by rw [wipeE_length, wipeE_length]; omega), List.getElem?_eq_none (by rw [wipeE_length]; omega)]
  · rw [wipeE_out hi, wipeE_out fun z => hi (h i z), wipeE_out hi]
theorem lc2Go_cons {vs vs2 : List Nat} {t t2 : T} {c c2 e : St → Rs Rv} {src2 : St → Rs (List D)} {d : D} {r acc out : List D} {s s' : St} (h : lc2Go vs vs2 t t2 c c2 e src2 (d :: r) acc s = some (.ok out, s')) :
    ∃ env b s1, bindT t d (wipeE s.env vs) = some env ∧ c { s with env := env } = some (.ok (.val (.bl b)), s1) ∧
      ((b = true ∧ ∃ items s2 acc2 s3, src2 s1 = some (.ok items, s2) ∧ lcGo vs2 t2 c2 e items acc s2 = some (.ok acc2, s3) ∧ lc2Go vs vs2 t t2 c c2 e src2 r acc2 s3 = some (.ok out, s')) ∨ (b = false ∧ lc2Go vs vs2 t t2 c c2 e src2 r acc s1 = some (.ok out, s'))) := by
  unfold lc2Go at h
  cases e1 : bindT t d (wipeE s.env vs) with
  | none => rw [e1] at h; cases h
  | some env =>
    rw [e1] at h
    refine ⟨env, ?_⟩
    simp only at h
    generalize hc : c { s with env := env } = mc at h
    split at h
    · rename_i s1
      refine ⟨true, s1, rfl, rfl, .inl ⟨rfl, ?_⟩⟩
      generalize he : src2 s1 = me at h
      split at h
      · rename_i items s2
        generalize hl : lcGo vs2 t2 c2 e items acc s2 = ml at h
        split at h
        · rename_i acc2 s3
          exact ⟨items, s2, acc2, s3, rfl, hl, h⟩
        · cases h
      · cases h
    · rename_i s1
      exact ⟨false, s1, rfl, rfl, .inr ⟨rfl, h⟩⟩
    · cases h
theorem lc2Go_noerr {vs vs2 : List Nat} {t t2 : T} {c c2 e : St → Rs Rv} {src2 : St → Rs (List D)} : ∀ {r acc : List D} {s s' : St} {x : Xc}, lc2Go vs vs2 t t2 c c2 e src2 r acc s ≠ some (.error x, s')
  | [], acc, s, s', x, h => by cases h
  | d :: r, acc, s, s', x, h => by
    unfold lc2Go at h
    split at h
    · cases h
    · split at h
      · split at h
        · split at h
          · exact lc2Go_noerr h
          · cases h
        · cases h
      · exact lc2Go_noerr h
      · cases h
theorem se_comp2 {tg1 iter1 : Expr} {ifs1 : List Expr} {vs1 : List Nat} {src1 cnd1 : E} {t1 : T} (hc : X.calm = true) (hN : X.N.Nodup) (ok : BlkOk X.N X.env.scope scope own) (hsl : ∀ i ∈ t.sl, i ∈ own.map (·.2)) (hv : ∀ i ∈ vs1, i ∈ own.map (·.2)) (hsl1 : ∀ i ∈ t1.sl, i ∈ vs1) (hi : PI X tg iter (rdI X Z C src))
    (hg : ∀ (s : Shared) (H : Hp) (Ca : Addr) (cl : List (Str × Addr)) (fp : List Addr), PG (X.blk s H scope (compEnvC scope cl Ca X.env) fp) tg (rdG X t)) {tt tt1 : TT} (htt : ∀ σ H Q, rdB X Z0 C cnd σ H Q → tt σ H Q) (htt1 : ∀ σ H Q, rdB X Z0 C cnd1 σ H Q → tt1 σ H Q)
    (ht : ∀ (s : Shared) (H : Hp) (Ca : Addr) (cl : List (Str × Addr)) (fp : List Addr), PTs (X.blk s H scope (compEnvC scope cl Ca X.env) fp) ifs tt)
    (he : ∀ (s : Shared) (H : Hp) (Ca : Addr) (cl : List (Str × Addr)) (fp : List Addr), PE (X.blk s H scope (compEnvC scope cl Ca X.env) fp) elt (rdE X Z0 C ex)) (hs : ∀ x, foldedSetIterable iter X.env x = pure x)
    (hi1 : ∀ (s : Shared) (H : Hp) (Ca : Addr) (cl : List (Str × Addr)) (fp : List Addr), PI (X.blk s H scope (compEnvC scope cl Ca X.env) fp) tg1 iter1 (rdI X Z0 C src1))
    (hg1 : ∀ (s : Shared) (H : Hp) (Ca : Addr) (cl : List (Str × Addr)) (fp : List Addr), PG (X.blk s H scope (compEnvC scope cl Ca X.env) fp) tg1 (rdG X t1))
    (ht1 : ∀ (s : Shared) (H : Hp) (Ca : Addr) (cl : List (Str × Addr)) (fp : List Addr), PTs (X.blk s H scope (compEnvC scope cl Ca X.env) fp) ifs1 tt1)
    (hs1 : ∀ env x, foldedSetIterable iter1 env x = pure x) :
    (∀ σ H (Q : VK), rdE X Z C (.comp2 (own.map (·.2)) vs1 ex t src cnd t1 src1 cnd1) σ H Q → tLc2 (rdI X Z C src) (rdG X t) tt (rdI X Z0 C src1) (rdG X t1) tt1 (rdV X Z0 C ex) (own.map (·.2)) vs1 σ H Q) ∧
    PE X (.ListComp elt [⟨tg, iter, ifs, 0⟩, ⟨tg1, iter1, ifs1, 0⟩] scope pos) (rdE X Z C (.comp2 (own.map (·.2)) vs1 ex t src cnd t1 src1 cnd1)) := by
  have key : ∀ σ H (Q : VK), rdE X Z C (.comp2 (own.map (·.2)) vs1 ex t src cnd t1 src1 cnd1) σ H Q → tLc2 (rdI X Z C src) (rdG X t) tt (rdI X Z0 C src1) (rdG X t1) tt1 (rdV X Z0 C ex) (own.map (·.2)) vs1 σ H Q := by
    rintro σ H Q ⟨w, st, rel, p⟩
    generalize hvs : own.map (·.2) = vs at p hsl hv ⊢
    have p : Post X.K X.mg Z (RV_ X.K X.mg) σ H w st (bnd (evI C src st) fun items s => gd (freeOf s.env vs = true)
      (bnd (lc2Go vs vs1 t t1 (evE C cnd) (evE C cnd1) (evE C ex) (evI C src1) items [] s) fun ds s' => okk (Rv.new ds) { s' with env := backE s.env s'.env vs })) Q := p
    refine ⟨w, st, rel, ?_⟩
    generalize evI C src st = m at p ⊢
    rcases m with _ | ⟨r | items, st1⟩
    · exact p
    · exact p
    · intro w1 H1 J g1 rel1 wk L hL
      have p : Post X.K X.mg Z (RV_ X.K X.mg) σ H w st (gd (freeOf st1.env vs = true)
        (bnd (lc2Go vs vs1 t t1 (evE C cnd) (evE C cnd1) (evE C ex) (evI C src1) items [] st1) fun ds s' => okk (Rv.new ds) { s' with env := backE st1.env s'.env vs })) Q := p
      by_cases free : freeOf st1.env vs = true
      · rw [show ∀ m : Rs Rv, gd (freeOf st1.env vs = true) m = m from fun m => if_pos free] at p
        cases e : lc2Go vs vs1 t t1 (evE C cnd) (evE C cnd1) (evE C ex) (evI C src1) items [] st1 with
        | none => rw [e] at p; exact p.elim
        | some pr =>
          obtain ⟨r, sE⟩ := pr
          cases r with
          | error x => exact absurd e lc2Go_noerr
          | ok out =>
            rw [e] at p
            obtain ⟨al, k2, ⟨G, Y, wk, hG, hY⟩, T0, k5⟩ := comp_start (w0 := w) (st0 := st) (H0 := H) (vs := vs) rel1 wk hL
            generalize ML (w1.add L) (wst st1 vs) (wipe σ vs) L = M1 at k2 hG hY T0 k5
            generalize hB : upd H1 L (.lst []) = HB at al hG hY T0 k5
            generalize hwB : w1.add L = wB at al hG hY T0 k5
            let Pv : Nat → Hp → Prop := fun i H => ∃ w s acc, Turn_ X.K X.mg M1 wB HB σ vs L w s H acc ∧ lc2Go vs vs1 t t1 (evE C cnd) (evE C cnd1) (evE C ex) (evI C src1) (items.drop i) acc s = some (.ok out, sE)
            refine ⟨fun i m H => m = items.length - i ∧ i ≤ items.length ∧ Pv i H, ⟨items.length, by simp, Nat.zero_le _, wB, st1, [], T0, e⟩, ?_⟩
            rintro i m H ⟨rfl, hi, w2, s, acc, T, hl⟩
            have q := hG _ w2 H T.go
            by_cases hlt : i < items.length
            · refine .inr ⟨wk.goes i H hlt q, Pv (i + 1), fun H' p' => ⟨items.length - (i + 1), by omega, rfl, hlt, p'⟩, fun v H' y => ?_⟩
              obtain ⟨d, e1, rd, T'⟩ := item_rel hY al T hlt (wk.yields i H v H' hlt q y)
              rw [drop_cons e1] at hl
              obtain ⟨env, b, s1, k1, k2', k3⟩ := lc2Go_cons hl
              refine ⟨w2, wst s vs, d, env, T'.rel, rd, k1, fun σ2 off g2 rel2 => ⟨wipe_off off hsl, htt _ _ _ ?_⟩⟩
              refine ⟨w2, _, rel2, ?_⟩
              rw [show evE C cnd { wst s vs with env := env } = some (.ok (.val (.bl b)), s1) from k2']
              intro b' w3 H3 g3 rel3 eb
              have eb : b = b' := eb
              subst eb
              rcases k3 with ⟨rfl, items1, s2, acc2, s3, k4, k5', k6⟩ | ⟨rfl, k4⟩
              · rw [if_pos rfl]
                refine ⟨w3, s1, rel3, ?_⟩
                rw [k4]
                intro w4 H4 J1 g4 rel4 wk1
                have gg := (g2.trans g3 T'.rel.alloc).trans g4 T'.rel.alloc
                obtain ⟨us, m1, m2⟩ := T'.made
                obtain ⟨n1, n2, n3⟩ := gg.stays m1 T'.mark T'.apart
                -- the inner base
                have base : Turn_ X.K X.mg (ML w4 s2 σ2 L) w4 H4 σ2 vs1 L w4 s2 H4 acc := ⟨Go.refl.mu fun b h => h.imp mu_wipe id, rel4.wipe, ⟨us, n1, m2.ext T'.rel gg.e⟩, n2, fun z => n3 (mu_wipe z)⟩
                have wk1' := wk1 (ML w4 s2 σ2 L) fun b h => by
                  rcases h with h | h
                  · exact rel4.muW h
                  · rw [h]; exact n2
                refine comp_turns rel4.alloc (.inr rfl) wk1' hsl1 htt1 (fun _ _ _ q => q) base k5' fun w5 H5 T5 => ?_
                refine ⟨w5, s3, acc2, ?_, k6⟩
                have hw2 : wipe (wipe σ2 vs1) vs = wipe σ vs := by rw [wipe_wipe hv, wipe_off off hsl]
                have hw3 : wst (wst s3 vs1) vs = wst s3 vs := by
                  show ({ s3 with env := wipeE (wipeE s3.env vs1) vs } : St) = _
                  rw [wipeE_wipeE hv]; rfl
                have sub : ∀ b, Mu w5 (wst s3 vs) (wipe σ vs) b → Mu w5 (wst s3 vs1) (wipe σ2 vs1) b := fun b h => by rw [← hw2, ← hw3] at h; exact mu_wipe h
                refine ⟨((T'.go.trans (gg.ml m1 T'.mark T'.apart) al).trans T5.go al).mu fun b h => h.imp (sub b) id, ?_, T5.made, T5.mark, fun z => T5.apart (sub L z)⟩
                rw [← hw2, ← hw3]
                exact T5.rel.wipe
              · rw [if_neg Bool.false_ne_true]
                exact ⟨w3, s1, acc, T'.next al (g2.trans g3 T'.rel.alloc) rel3 (wipe_off off hsl), k4⟩
            · have e : i = items.length := by omega
              subst e
              rw [List.drop_length] at hl
              cases hl
              exact .inl ⟨wk.stops H q, comp_fin (M0 := fun _ => False) rel rel1 g1 free hL k5 T p⟩
      · rw [show ∀ m : Rs Rv, gd (freeOf st1.env vs = true) m = none from fun m => if_neg free] at p
        exact p.elim
  exact ⟨key, peMono (pe_lc2 hc hN hi ok hv hg ht hi1 hg1 ht1 (fun s H Ca cl fp => se_val (he s H Ca cl fp)) hs hs1) key⟩
end
end
end Pi

set_option Elab.async false
set_option linter.all false
set_option maxRecDepth 100000
set_option maxHeartbeats 1000000
/-! PiStm: statements, calls, defs. -/
namespace Pi
open PySem L2
section
variable {X : Cx} {Z : WX} {C : Cfg} {a b c : Expr} {x y z : E} {pos : Pos} {es : List Expr}
variable {M M' : Addr → Prop} {K : PySem.W.Frag} {mg : Str → Option Value} {w w' w1 w2 : Wd} {H H' H1 H2 : Hp} {st st' st1 st2 : St} {σ σ' : L2.St}

/-- what is handed back: a list that nothing else holds is younger than H, or was a name's own -/
def RtOk (K : PySem.W.Frag) (mg : Str → Option Value) (w0 : Wd) (s0 : St) (σ0 : L2.St) (H0 : Hp) (w : Wd) (st : St) (σ : L2.St) (H : Hp) (r : Rv) (v : V) : Prop := match r with
  | .val d => RD K mg w H d v
  | .new xs => ∃ a vs, v = .ref a ∧ H a = some (.lst vs) ∧ w.W a ∧ ¬ Mu w st σ a ∧ (H0 a = none ∨ (Mu w0 s0 σ0 a ∧ a ∉ w0.io)) ∧ RDs K mg w H xs vs
theorem RtOk.of {r : Rv} {v : V} (h : RvOk K mg H1 w st σ H r v) (w0 : Wd) (s0 : St) (σ0 : L2.St) : RtOk K mg w0 s0 σ0 H1 w st σ H r v := by
  cases r with
  | val d => exact h
  | new xs =>
    obtain ⟨a, vs, e, h1, h2, h3, h4, h5⟩ := h
    exact ⟨a, vs, e, h1, h2, h3, .inl h4, h5⟩
theorem RtOk.back {r : Rv} {v : V} {σ1 : L2.St} (h : RtOk K mg w1 st1 σ1 H1 w st σ H r v) {w0 : Wd} {s0 : St} {σ0 : L2.St} {H0 : Hp} (g : Go (Mu w0 s0 σ0) w0 H0 (Mu w1 st1 σ1) w1 H1) : RtOk K mg w0 s0 σ0 H0 w st σ H r v := by
  cases r with
  | val d => exact h
  | new xs =>
    obtain ⟨a, vs, e, h1, h2, h3, h4, h5⟩ := h
    refine ⟨a, vs, e, h1, h2, h3, ?_, h5⟩
    rcases h4 with h4 | ⟨h4, h6⟩
    · exact .inl (g.fresh h4)
    · rcases g.msub a h4 with q | q
      · exact .inr ⟨q, fun z => h6 (g.pre.subset z)⟩
      · exact .inl q
/-- the end of a statement -/
def PostS (K : PySem.W.Frag) (mg : Str → Option Value) (Z : WX) (σ : L2.St) (H : Hp) (w : Wd) (st : St) (res : Rs Fl) (D : Ends) : Prop := match res with
  | none => False
  | some (.ok fl, st') => ∀ σ' w' H', Go (Mu w st σ) w H (Mu w' st' σ') w' H' → Rel K mg w' st' σ' H' → match fl with
    | .nx => D.nx σ' H'
    | .brk => D.bk σ' H'
    | .cnt => D.ct σ' H'
    | .ret r => ∀ v, RtOk K mg w st σ H w' st' σ' H' r v → D.rt v H'
  | some (.error x, st') => ∀ cls d σ' w' H', Go (Mu w st σ) w H (Mu w' st' σ') w' H' → Rel K mg w' st' σ' H' → XOk mg x cls → Z cls d σ' H'
def rdS (X : Cx) (Z : WX) (C : Cfg) (s : S) : TS := fun D σ H => ∃ w st, Rel X.K X.mg w st σ H ∧ PostS X.K X.mg Z σ H w st (exS C s st) D
/-- behind a step -/
theorem PostS.after {σ1 : L2.St} {res : Rs Fl} {D : Ends} (rel : Rel K mg w st σ H) (h : PostS K mg Z σ H w st res D) (g : Go (Mu w st σ) w H (Mu w1 st1 σ1) w1 H1) : PostS K mg Z σ1 H1 w1 st1 res D := by
  rcases res with _ | ⟨r | fl, s1⟩
  · exact h
  · exact fun cls d σ' w' H' g' r' => h cls d σ' w' H' (g.trans g' rel.alloc) r'
  · intro σ' w' H' g' r'
    have := h σ' w' H' (g.trans g' rel.alloc) r'
    cases fl with
    | nx => exact this
    | brk => exact this
    | cnt => exact this
    | ret r => exact fun v q => this v (q.back g)
theorem PostS.expr {α β : Type} {R : Hp → Wd → St → L2.St → Hp → α → β → Prop} {m : Rs α} {f : α → St → Rs Fl} {D : Ends} (rel : Rel K mg w st σ H) (h : PostS K mg Z σ H w st (bnd m f) D) :
    Post K mg Z R σ H w st m fun v H1 => ∃ w1 st1 r1, Rel K mg w1 st1 σ H1 ∧ R H w1 st1 σ H1 r1 v ∧ Go (Mu w st σ) w H (Mu w1 st1 σ) w1 H1 ∧ PostS K mg Z σ H1 w1 st1 (f r1 st1) D ∧ PostS K mg Z σ H w st (f r1 st1) D := by
  rcases m with _ | ⟨r | r, st1⟩
  · exact h
  · exact fun cls d w' H' g r' xo => h cls d σ w' H' g r' xo
  · intro v w1 H1 g r1 rv
    exact ⟨w1, st1, r, r1, rv, g, PostS.after rel (st1 := st1) (σ1 := σ) h g, h⟩

theorem ss_nil : PSs X [] (rdS X Z C .skip) := pssMono pss_nil fun D σ H ⟨w, st, rel, p⟩ => p σ w H Go.refl rel
theorem ss_seq {s : Stmt} {rest : List Stmt} {u v : S} (h1 : PS X s (rdS X Z C u)) (h2 : PSs X rest (rdS X Z C v)) : PSs X (s :: rest) (rdS X Z C (.seq u v)) := by
  refine pssMono (pss_cons h1 h2) ?_
  rintro D σ H ⟨w, st, rel, p⟩
  refine ⟨w, st, rel, ?_⟩
  have p : PostS X.K X.mg Z σ H w st (bnd (exS C u st) fun fl s => match fl with
    | .nx => exS C v s
    | fl => okk fl s) D := p
  generalize exS C u st = m at p ⊢
  rcases m with _ | ⟨r | fl, s1⟩
  · exact p
  · exact p
  · intro σ' w' H' g r'
    cases fl with
    | nx => exact ⟨w', s1, r', PostS.after rel (st1 := s1) (σ1 := σ') p g⟩
    | brk => exact p σ' w' H' g r'
    | cnt => exact p σ' w' H' g r'
    | ret r => exact p σ' w' H' g r'
theorem ss_pass : PS X (.Pass pos) (rdS X Z C .skip) := psMono ps_pass fun D σ H ⟨w, st, rel, p⟩ => p σ w H Go.refl rel
theorem ss_brk : PS X (.Break pos) (rdS X Z C .brk) := psMono ps_break fun D σ H ⟨w, st, rel, p⟩ => p σ w H Go.refl rel
theorem ss_cnt : PS X (.Continue pos) (rdS X Z C .cnt) := psMono ps_continue fun D σ H ⟨w, st, rel, p⟩ => p σ w H Go.refl rel
theorem ss_retN : PS X (.Return none pos) (rdS X Z C .retN) := psMono ps_retN fun D σ H ⟨w, st, rel, p⟩ => p σ w H Go.refl rel .non rfl

/-! ### stores -/
def Rv.sl : Rv → Sl
  | .val d => .val d
  | .new xs => .own xs
theorem setT_nm {i : Nat} {r : Rv} {s s' : St} (h : setT (.nm i) r s = some s') : i < s.env.length ∧ s' = { s with env := s.env.set i r.sl } := by
  cases r with
  | val d =>
    obtain ⟨e, h1, h2⟩ := map_some (show (gd (i < s.env.length) (some (s.env.set i (.val d)))).map (fun env => { s with env := env }) = some s' from h)
    obtain ⟨c, h3⟩ := gd_some h1
    cases h3; cases h2
    exact ⟨c, rfl⟩
  | new xs =>
    obtain ⟨c, h3⟩ := gd_some (show gd (i < s.env.length) (some ({ s with env := s.env.set i (.own xs) } : St)) = some s' from h)
    cases h3
    exact ⟨c, rfl⟩
/-- a value stored in a name -/
theorem set_ok {i : Nat} {r : Rv} {v : V} (rel : Rel K mg w st σ H) {H0 : Hp} {w0 : Wd} {M0 : Addr → Prop} (g : Go M0 w0 H0 (Mu w st σ) w H) (al : ∀ a, w0.W a → H0 a ≠ none) (h : RvOk K mg H0 w st σ H r v) (e : setT (.nm i) r st = some st') :
    Go M0 w0 H0 (Mu w st' (σ.set i (some v))) w H ∧ Rel K mg w st' (σ.set i (some v)) H := by
  obtain ⟨c, rfl⟩ := setT_nm e
  cases r with
  | val d =>
    obtain ⟨g1, r1⟩ := bind_val rel h c
    exact ⟨g.trans g1 al, r1⟩
  | new xs =>
    obtain ⟨a, vs, rfl, h1, h2, h3, h4, h5⟩ := h
    exact bind_own rel h1 h2 h3 h5 c g h4
theorem set_rd {i : Nat} {te : TE} (hte : ∀ σ H Q, rdE X Z C x σ H Q → te σ H Q) {D : Ends} (q : rdS X Z C (.set (.nm i) x) D σ H) : tAsg te (gName i) D σ H := by
  obtain ⟨w, st, rel, p⟩ := q
  have p : PostS X.K X.mg Z σ H w st (bnd (evE C x st) fun r s => match setT (.nm i) r s with
    | none => none
    | some s => okk .nx s) D := p
  refine hte _ _ _ ⟨w, st, rel, (PostS.expr (R := RV_ X.K X.mg) rel p).imp ?_⟩
  rintro v H1 ⟨w1, st1, r1, rel1, rv, g1, p1, p2⟩
  cases e : setT (.nm i) r1 st1 with
  | none => rw [e] at p2; exact p2.elim
  | some s' =>
    rw [e] at p2
    obtain ⟨g2, rel2⟩ := set_ok rel1 g1 rel.alloc rv e
    exact p2 _ w1 H1 g2 rel2
theorem ss_setN {i : Nat} {n : Str} {p' : Pos} (hN : X.N.Nodup) (hi : X.N[i]? = some n) (hx : Loc X.env.scope n) (he : PE X a (rdE X Z C x)) (hs : swapsWith a (some (.Name n p')) pos.line X.env = pure false) (hf : X.fn n = true ∨ X.env.scope.names.lookup n = some .local) :
    PS X (.Assign [.Name n p'] a pos) (rdS X Z C (.set (.nm i) x)) := psMono (ps_set hN hi hx he hs hf) fun D σ H q => set_rd (fun _ _ _ q => q) q
theorem ss_setT {t : T} {tg : Expr} (he : PE X a (rdE X Z C x)) (hg : PG X tg (rdG X t)) (ht : ∀ i, t ≠ .nm i) (hs : swapsWithSole [tg] a pos.line X.env = pure false) (hw : swappedStores [tg] a X.env = pure none) (h1 : (assignEach [tg] X.env).map (·.2) = [assign tg X.env]) :
    PS X (.Assign [tg] a pos) (rdS X Z C (.set t x)) := by
  refine psMono (ps_asg (se_val he) hg hs hw h1) ?_
  rintro D σ H ⟨w, st, rel, p⟩
  have e0 : exS C (.set t x) st = bnd (fz (evE C x st)) fun d s => match bindT t d s.env with
      | none => none
      | some env => okk .nx { s with env := env } := by
    show bnd (evE C x st) (fun r s => match setT t r s with
      | none => none
      | some s => (okk Fl.nx s : Rs Fl)) = _
    have e1 : ∀ r (s : St), setT t r s = (bindT t r.d s.env).map fun env => { s with env := env } := by
      intro r s
      cases t with
      | nm i => exact absurd rfl (ht i)
      | nil => cases r <;> rfl
      | cons t u => cases r <;> rfl
    rcases evE C x st with _ | ⟨r | r, s1⟩
    · rfl
    · rfl
    · show (match setT t r s1 with
        | none => none
        | some s => (okk Fl.nx s : Rs Fl)) = match bindT t r.d s1.env with
        | none => none
        | some env => (okk Fl.nx { s1 with env := env } : Rs Fl)
      rw [e1]
      cases bindT t r.d s1.env <;> rfl
  rw [e0] at p
  refine ⟨w, st, rel, (PostS.expr (R := RD_ X.K X.mg) rel p).imp ?_⟩
  rintro v H1 ⟨w1, st1, d, rel1, rd, g1, p1, p2⟩
  cases e : bindT t d st1.env with
  | none => rw [e] at p1; exact p1.elim
  | some env =>
    rw [e] at p1
    exact ⟨w1, st1, d, env, rel1, rd, e, fun σ' _ g2 rel2 => p1 σ' w1 H1 g2 rel2⟩
theorem ss_put {o i : Expr} {p' : Pos} (ho : PE X o (rdP X Z C x)) (hi : PE X i (rdE X Z C y)) (he : PE X a (rdE X Z C z)) (ha : ∀ v, assign (.Subscript o i p') X.env v = (do
      let ov ← holding [v] (eval o X.env)
      let iv ← holding [v, ov] (eval i X.env)
      standAt p'
      holding [v, ov, iv] (setItem ov iv v)
      release [v, ov, iv] [])) (hs : swapsWithSole [.Subscript o i p'] a pos.line X.env = pure false) (hw : swappedStores [.Subscript o i p'] a X.env = pure none) (h1 : (assignEach [.Subscript o i p'] X.env).map (·.2) = [assign (.Subscript o i p') X.env]) :
    PS X (.Assign [.Subscript o i p'] a pos) (rdS X Z C (.put x y z)) := by
  refine psMono (ps_asg (se_val he) (pg_sub ho (se_val hi) set_list ha) hs hw h1) ?_
  rintro D σ H ⟨w, st, rel, p⟩
  refine ⟨w, st, rel, (PostS.expr (R := RD_ X.K X.mg) rel p).imp ?_⟩
  rintro v H1 ⟨w1, st1, d, rel1, rd, g1, p1, _⟩
  refine ⟨w1, st1, rel1, (PostS.expr (R := RP_ X.K X.mg) rel1 p1).imp ?_⟩
  rintro u H2 ⟨w2, st2, o, rel2, od, g2, p2, _⟩
  refine ⟨w2, st2, rel2, (PostS.expr (R := RD_ X.K X.mg) rel2 p2).imp ?_⟩
  rintro k H3 ⟨w3, st3, kd, rel3, rk, g3, p3, _⟩
  cases e1 : o.get st3 with
  | none => rw [e1] at p3; exact p3.elim
  | some od' =>
    rw [e1, Option.bind_some] at p3
    cases od' with
    | lst xs =>
      cases kd with
      | int j =>
        cases e2 : ixOf xs.length j with
        | none => simp only [e2] at p3; exact p3.elim
        | some m =>
          simp only [e2, Option.map_some] at p3
          cases e3 : o.put (xs.set m d) st3 with
          | none => simp only [e3] at p3; exact p3.elim
          | some s' =>
            simp only [e3] at p3
            have od3 : OpOk X.K X.mg w3 st3 σ H3 o u := OpOk.ext (st' := st3) rel2 od.1 g3
            have rd3 : RD X.K X.mg w3 H3 d v := (rd.ext rel1 g2.e).ext rel2 g3.e
            obtain ⟨a', vs, q1, q2, q3⟩ := (show RB X.K X.mg w3 H3 (.lst xs) u from OpOk.get rel3 od3 e1)
            obtain ⟨b', vs', h1, h2, h3, g4, rel4⟩ := put_ok rel3 od3 e1 e3 (q3.set m rd3)
            rw [q1] at h1; cases h1
            exact ⟨a', vs, j, m, q1, rk, q2, by rw [q3.length, ← ixOf_eq]; exact e2, p3 σ w3 _ g4 rel4⟩
      | _ => exact p3.elim
    | _ => exact p3.elim
theorem ss_aug {i : Nat} {n : Str} {o : Operator} {p' : Pos} (hN : X.N.Nodup) (hi : X.N[i]? = some n) (hx : Loc X.env.scope n) (he : PE X a (rdE X Z C x)) (ho : o = .Add ∨ o = .Sub) (hf : X.fn n = true ∨ X.env.scope.names.lookup n = some .local) :
    PS X (.AugAssign (.Name n p') o a pos) (rdS X Z C (.aug i o x)) := by
  have key : ∀ (f : Int → Int → Int) (hf : ∀ x y z, augOp o x y = some z → ∃ i j, x = .int i ∧ y = .int j ∧ z = .int (f i j)) D σ H, rdS X Z C (.aug i o x) D σ H → tAug i (rdV X Z C x) (ipI f) D σ H := by
    rintro f hf D σ H ⟨w, st, rel, p⟩
    have p : PostS X.K X.mg Z σ H w st (match Sl.at st.env i with
      | .val d => bnd (fz (evE C x st)) fun y s => match augOp o d y with
        | some z => match setT (.nm i) (.val z) s with
          | some s => okk .nx s
          | none => none
        | none => none
      | _ => none) D := p
    cases e : Sl.at st.env i with
    | no => rw [e] at p; exact p.elim
    | own _ => rw [e] at p; exact p.elim
    | val d =>
      rw [e] at p
      obtain ⟨v, h1, h2⟩ := rel.val i d (at_some e (by intro z; cases z))
      refine ⟨v, h1, w, st, rel, (PostS.expr (R := RD_ X.K X.mg) rel p).imp ?_⟩
      rintro u H1 ⟨w1, st1, d2, rel1, rd, g1, _, p2⟩
      cases e2 : augOp o d d2 with
      | none => rw [e2] at p2; exact p2.elim
      | some z =>
        simp only [e2] at p2
        cases e3 : setT (.nm i) (.val z) st1 with
        | none => simp only [e3] at p2; exact p2.elim
        | some s' =>
          simp only [e3] at p2
          obtain ⟨i1, j1, rfl, rfl, rfl⟩ := hf _ _ _ e2
          obtain ⟨g2, rel2⟩ := set_ok (r := .val (.int (f i1 j1))) (v := .int (f i1 j1)) rel1 g1 rel.alloc rfl e3
          exact ⟨i1, j1, h2, rd, p2 _ w1 H1 g2 rel2⟩
  rcases ho with rfl | rfl
  · refine psMono (ps_aug hN hi hx (se_val he) ip_add hf) (key (fun i j => i + j) fun x y z h => ?_)
    unfold augOp at h
    split at h
    · cases h; exact ⟨_, _, rfl, rfl, rfl⟩
    · rename_i h0; cases h0
    · cases h
  · refine psMono (ps_aug hN hi hx (se_val he) ip_sub hf) (key (fun i j => i - j) fun x y z h => ?_)
    unfold augOp at h
    split at h
    · rename_i h0; cases h0
    · cases h; exact ⟨_, _, rfl, rfl, rfl⟩
    · cases h

/-! ### return, if, loops -/
theorem ss_ret (he : PE X a (rdE X Z C x)) (hv : ∀ k, x = .loc k → PE X a (tVar k)) : PS X (.Return (some a) pos) (rdS X Z C (.ret x)) := by
  have gen : ∀ D σ H w st, Rel X.K X.mg w st σ H → PostS X.K X.mg Z σ H w st (bnd (evE C x st) fun r s => okk (.ret r) s) D → tRet (rdE X Z C x) D σ H := by
    intro D σ H w st rel p
    refine ⟨w, st, rel, (PostS.expr (R := RV_ X.K X.mg) rel p).imp ?_⟩
    rintro v H1 ⟨w1, st1, r1, rel1, rv, g1, p1, p2⟩
    exact p2 σ w1 H1 g1 rel1 v (RtOk.of (h := rv) w st σ)
  refine ⟨fun pins s σ H D I q => ?_⟩
  obtain ⟨w, st, rel, p⟩ := q
  have g0 := ps_ret (pos := pos) he
  by_cases hx : ∃ k xs, x = .loc k ∧ Sl.at st.env k = .own xs
  · obtain ⟨k, xs, rfl, e⟩ := hx
    have p : PostS X.K X.mg Z σ H w st (bnd (match Sl.at st.env k with
      | .own xs => okk (Rv.new xs) { st with env := st.env.set k .no }
      | _ => evE C (.loc k) st) fun r s => okk (.ret r) s) D := p
    rw [e] at p
    have hk := at_some e (by intro z; cases z)
    have kl : k < st.env.length := (List.getElem?_eq_some_iff.mp hk).1
    obtain ⟨a', vs, h1, h2, h3, h4, h5⟩ := rel.own k xs hk
    refine (ps_ret (pos := pos) (hv k rfl)).run pins s σ H D I ⟨.ref a', h1, ?_⟩
    have own0 : ∀ {i b}, OwnAt { st with env := st.env.set k .no } σ i b → OwnAt st σ i b ∧ i ≠ k := by
      rintro i b ⟨ys, e1, e2⟩
      have e1 : (st.env.set k .no)[i]? = some (.own ys) := e1
      by_cases hi : i = k
      · subst hi
        rw [List.getElem?_set_self kl] at e1; cases e1
      · rw [List.getElem?_set_ne (Ne.symm hi)] at e1
        exact ⟨⟨ys, e1, e2⟩, hi⟩
    have own1 : OwnAt st σ k a' := ⟨xs, hk, h1⟩
    refine p σ w H ⟨fun _ _ e _ => e, fun _ e => e, fun _ e => .inl e, fun b hb => ?_, fun _ hb _ => hb, List.prefix_refl _⟩ ⟨?_, fun j d e => ?_, fun j ys e => ?_, fun j i b e1 e2 => rel.inj j i b (own0 e1).1 (own0 e2).1, rel.cell, rel.tab, rel.stray, rel.slen, rel.nd, rel.alloc⟩ _ ⟨a', vs, rfl, h2, h3, fun z => ?_, .inr ⟨.inr ⟨k, own1⟩, h4⟩, h5⟩
    · rcases hb with hb | ⟨i, hb⟩
      · exact .inl (.inl hb)
      · exact .inl (.inr ⟨i, (own0 hb).1⟩)
    · show σ.length = (st.env.set k .no).length
      rw [List.length_set]; exact rel.len
    · have e : (st.env.set k .no)[j]? = some (.val d) := e
      by_cases hj : j = k
      · subst hj
        rw [List.getElem?_set_self kl] at e; cases e
      · rw [List.getElem?_set_ne (Ne.symm hj)] at e
        exact rel.val j d e
    · have e : (st.env.set k .no)[j]? = some (.own ys) := e
      by_cases hj : j = k
      · subst hj
        rw [List.getElem?_set_self kl] at e; cases e
      · rw [List.getElem?_set_ne (Ne.symm hj)] at e
        exact rel.own j ys e
    · rcases z with z | ⟨i, z⟩
      · exact h4 z
      · exact (own0 z).2 (rel.inj i k a' (own0 z).1 own1)
  · refine g0.run pins s σ H D I (gen D σ H w st rel ?_)
    have e : exS C (.ret x) st = bnd (evE C x st) fun r s => okk (.ret r) s := by
      cases x with
      | loc k =>
        show bnd (match Sl.at st.env k with
          | .own xs => okk (Rv.new xs) { st with env := st.env.set k .no }
          | _ => evE C (.loc k) st) _ = _
        cases e : Sl.at st.env k with
        | own xs => exact absurd ⟨k, xs, rfl, e⟩ hx
        | no => rfl
        | val d => rfl
      | _ => rfl
    rw [e] at p
    exact p
theorem PostS.tst {f : Rv → St → Rs Fl} {D : Ends} (rel : Rel X.K X.mg w st σ H) (hf : ∀ r s, (∀ b, r ≠ .val (.bl b)) → f r s = none) (p : PostS X.K X.mg Z σ H w st (bnd (evE C x st) f) D) :
    rdB X Z C x σ H fun b H1 => ∃ w1 st1, Rel X.K X.mg w1 st1 σ H1 ∧ PostS X.K X.mg Z σ H1 w1 st1 (f (.val (.bl b)) st1) D := by
  refine ⟨w, st, rel, ?_⟩
  have e : bnd (evE C x st) f = bnd (Pi.tst (evE C x st)) fun b s => f (.val (.bl b)) s := by
    rcases evE C x st with _ | ⟨r | r, s1⟩
    · rfl
    · rfl
    · cases r with
      | new xs => exact hf _ _ (by intro b z; cases z)
      | val d =>
        cases d with
        | bl b => rfl
        | _ => exact hf _ _ (by intro b z; cases z)
  rw [e] at p
  refine (PostS.expr (R := RT_) rel p).imp ?_
  rintro v H1 ⟨w1, st1, r1, rel1, rfl, g1, p1, _⟩
  exact ⟨w1, st1, rel1, p1⟩
theorem ss_ite {A B : List Stmt} {u v : S} (hc : PT X c (rdB X Z C x)) (ha : PSs X A (rdS X Z C u)) (hb : PSs X B (rdS X Z C v)) : PS X (.If c A B pos) (rdS X Z C (.ite x u v)) := by
  refine psMono (ps_if hc ha hb) ?_
  rintro D σ H ⟨w, st, rel, p⟩
  have p : PostS X.K X.mg Z σ H w st (bnd (evE C x st) fun r s => match r with
    | .val (.bl true) => exS C u s
    | .val (.bl false) => exS C v s
    | _ => none) D := p
  obtain ⟨w', st', rel', q⟩ := PostS.tst rel (fun r s h => by
    cases r with
    | new xs => rfl
    | val d => cases d with
      | bl b => exact absurd rfl (h b)
      | _ => rfl) p
  refine ⟨w', st', rel', q.imp ?_⟩
  rintro b H1 ⟨w1, st1, rel1, p1⟩
  cases b with
  | true => exact iteT ⟨w1, st1, rel1, p1⟩
  | false => exact iteF ⟨w1, st1, rel1, p1⟩
end
end Pi

set_option Elab.async false
set_option linter.all false
set_option maxRecDepth 100000
set_option maxHeartbeats 1000000
/-! PiStm2: loops, dropped values, raise, parallel stores. -/
namespace Pi
open PySem L2
section
variable {X : Cx} {Z : WX} {C : Cfg} {a b c : Expr} {x y z : E} {pos : Pos} {es : List Expr}
variable {M M' : Addr → Prop} {K : PySem.W.Frag} {mg : Str → Option Value} {w w' w1 w2 : Wd} {H H' H1 H2 : Hp} {st st' st1 st2 : St} {σ σ' : L2.St}

theorem loop_some {f : St → Rs (Option Fl)} {s : St} (h : loop f s ≠ none) : ∃ n, loop f s = iter f n s := by
  unfold loop at h ⊢
  split
  · exact ⟨_, rfl⟩
  · rename_i q; rw [dif_neg q] at h; exact absurd rfl h
/-- a turn's end within a while, n turns left -/
def whlB (f : St → Rs (Option Fl)) (n : Nat) (m : Rs Fl) : Rs Fl := match m with
  | none => none
  | some (.error x, s) => some (.error x, s)
  | some (.ok .nx, s) => iter f n s
  | some (.ok .cnt, s) => iter f n s
  | some (.ok .brk, s) => okk .nx s
  | some (.ok (.ret v), s) => okk (.ret v) s
noncomputable def whlC (f : St → Rs (Option Fl)) (n : Nat) (u : S) (C : Cfg) (r : Rv) (s : St) : Rs Fl := match r with
  | .val (.bl true) => whlB f n (exS C u s)
  | .val (.bl false) => okk .nx s
  | _ => none
theorem iter_whl {u : S} {n : Nat} {s : St} {f : St → Rs (Option Fl)} (hf : f = whl1 (evE C x) (exS C u)) : iter f (n + 1) s = bnd (evE C x s) (whlC f n u C) := by
  have e0 : iter f (n + 1) s = match f s with
    | none => none
    | some (.error x, s) => some (.error x, s)
    | some (.ok (some fl), s) => some (.ok fl, s)
    | some (.ok none, s) => iter f n s := rfl
  rw [e0]
  have e1 : f s = whl1 (evE C x) (exS C u) s := by rw [hf]
  rw [e1]
  unfold whl1
  rcases evE C x s with _ | ⟨r | r, s1⟩
  · rfl
  · rfl
  · cases r with
    | new xs => rfl
    | val d =>
      cases d with
      | bl b =>
        cases b with
        | false => rfl
        | true =>
          show _ = whlB f n (exS C u s1)
          dsimp only
          rcases exS C u s1 with _ | ⟨r | fl, s2⟩
          · rfl
          · rfl
          · cases fl <;> first | rfl | (show _ = iter f n s2; rfl)
      | _ => rfl
theorem PostS.turn {D : Ends} {N : L2.St → Hp → Prop} {m : Rs Fl} {next : St → Rs Fl} (p : PostS K mg Z σ H w st (match m with
      | none => none
      | some (.error x, s) => some (.error x, s)
      | some (.ok .nx, s) => next s
      | some (.ok .cnt, s) => next s
      | some (.ok .brk, s) => okk .nx s
      | some (.ok (.ret v), s) => okk (.ret v) s) D) (hN : ∀ s1 σ' w' H', Go (Mu w st σ) w H (Mu w' s1 σ') w' H' → Rel K mg w' s1 σ' H' → PostS K mg Z σ H w st (next s1) D → N σ' H') :
    PostS K mg Z σ H w st m { D with nx := N, ct := N, bk := D.nx } := by
  rcases m with _ | ⟨r | fl, s1⟩
  · exact p
  · exact p
  · cases fl with
    | nx => exact fun σ' w' H' g r' => hN s1 σ' w' H' g r' p
    | cnt => exact fun σ' w' H' g r' => hN s1 σ' w' H' g r' p
    | brk => exact p
    | ret v => exact p
theorem ss_whl {B : List Stmt} {u : S} (hp : PassesOwn (model X.prog X.w) X.A X.env X.xe) (hc : PT X c (rdB X Z C x)) (hb : PSs X B (rdS X Z C u)) : PS X (.While c B [] pos) (rdS X Z C (.whl x u)) := by
  refine psMono (ps_while hp hc hb) ?_
  rintro D σ H ⟨w, st, rel, p⟩
  obtain ⟨f, hf⟩ : ∃ f, f = whl1 (evE C x) (exS C u) := ⟨_, rfl⟩
  have p : PostS X.K X.mg Z σ H w st (loop f st) D := by rw [hf]; exact p
  obtain ⟨n0, e0⟩ := loop_some (f := f) (s := st) (by intro z; rw [z] at p; exact p)
  rw [e0] at p
  refine ⟨fun n σ' H' => ∃ w' s', Rel X.K X.mg w' s' σ' H' ∧ PostS X.K X.mg Z σ' H' w' s' (iter f n s') D, ⟨n0, w, st, rel, p⟩, ?_⟩
  rintro n σ' H' ⟨w', s', rel', p'⟩
  cases n with
  | zero => exact p'.elim
  | succ n =>
    rw [iter_whl hf] at p'
    obtain ⟨wa, sa, rela, q⟩ := PostS.tst rel' (fun r s h => by
      cases r with
      | new xs => rfl
      | val d => cases d with
        | bl b => exact absurd rfl (h b)
        | _ => rfl) p'
    refine ⟨wa, sa, rela, q.imp ?_⟩
    rintro b H1 ⟨w1, st1, rel1, p1⟩
    cases b with
    | false =>
      rw [if_neg Bool.false_ne_true]
      exact p1 σ' w1 H1 Go.refl rel1
    | true =>
      rw [if_pos rfl]
      refine ⟨fun σ'' H'' => ∃ w' s', Rel X.K X.mg w' s' σ'' H'' ∧ PostS X.K X.mg Z σ'' H'' w' s' (iter f n s') D, fun _ _ h => ⟨n, Nat.lt_succ_self n, h⟩, w1, st1, rel1, PostS.turn (next := iter f n) p1 fun s2 σ2 w2 H2 g2 r2 p2 => ⟨w2, s2, r2, PostS.after rel1 p2 g2⟩⟩

theorem forGo_cons {t : T} {u : S} {d : D} {r : List D} {s : St} : forGo t (exS C u) (d :: r) s = match (bindT t d s.env) with
    | none => none
    | some env => match exS C u { s with env := env } with
      | none => none
      | some (.error x, s) => some (.error x, s)
      | some (.ok .nx, s) => forGo t (exS C u) r s
      | some (.ok .cnt, s) => forGo t (exS C u) r s
      | some (.ok .brk, s) => okk .nx s
      | some (.ok (.ret v), s) => okk (.ret v) s := rfl
theorem ss_for {t : T} {tg it : Expr} {B : List Stmt} {u : S} (hp : PassesOwn (model X.prog X.w) X.A X.env X.xe) (hc : X.calm = true) (hi : PI X tg it (rdI X Z C y)) (hg : PG X tg (rdG X t)) (hb : PSs X B (rdS X Z C u))
    (hs : ∀ x, foldedSetIterable it X.env x = pure x) : PS X (.For tg it B [] pos) (rdS X Z C (.for t y u)) := by
  refine psMono (ps_for hp hc hi hg hb hs) ?_
  rintro D σ H ⟨w, st, rel, p⟩
  have p : PostS X.K X.mg Z σ H w st (bnd (evI C y st) fun items s => forGo t (exS C u) items s) D := p
  refine ⟨w, st, rel, ?_⟩
  generalize evI C y st = m at p ⊢
  rcases m with _ | ⟨r | items, s1⟩
  · exact p
  · exact fun cls d w' H' g r' xo => p cls d σ w' H' g r' xo
  · intro w1 H1 J g1 rel1 wk
    have p1 : PostS X.K X.mg Z σ H1 w1 s1 (forGo t (exS C u) items s1) D := PostS.after rel (st1 := s1) (σ1 := σ) p g1
    obtain ⟨G, Y, wlk, hG, hY⟩ := wk (Mu w1 s1 σ) fun a h => rel1.muW h
    refine ⟨fun i m σ' H' => m = items.length - i ∧ i ≤ items.length ∧ ∃ w' s', Rel X.K X.mg w' s' σ' H' ∧ Go (Mu w1 s1 σ) w1 H1 (Mu w' s' σ') w' H' ∧ PostS X.K X.mg Z σ' H' w' s' (forGo t (exS C u) (items.drop i) s') D,
      ⟨_, rfl, Nat.zero_le _, w1, s1, rel1, Go.refl, by rw [List.drop_zero]; exact p1⟩, ?_⟩
    rintro i m σ' H' ⟨rfl, hi', w', s', rel', g', p'⟩
    by_cases hlt : i < items.length
    · rw [List.drop_eq_getElem_cons hlt, forGo_cons] at p'
      refine .inr ⟨wlk.goes i H' hlt (hG _ _ _ g'), fun σ'' H'' => i + 1 ≤ items.length ∧ ∃ w' s', Rel X.K X.mg w' s' σ'' H'' ∧ Go (Mu w1 s1 σ) w1 H1 (Mu w' s' σ'') w' H'' ∧ PostS X.K X.mg Z σ'' H'' w' s' (forGo t (exS C u) (items.drop (i + 1)) s') D, ?_, ?_⟩
      · rintro σ'' H'' ⟨h1, h2⟩
        exact ⟨items.length - (i + 1), by omega, rfl, h1, h2⟩
      · intro v H'' yl
        obtain ⟨d, e1, rd, hh⟩ := hY i H' v H'' _ w' hlt g' (wlk.yields i H' v H'' hlt (hG _ _ _ g') yl) rel'.alloc
        rw [List.getElem?_eq_getElem hlt] at e1; cases e1
        obtain ⟨rel2, g2⟩ : Rel X.K X.mg w' s' σ' H'' ∧ Go (Mu w' s' σ') w' H' (Mu w' s' σ') w' H'' := by
          rcases hh with rfl | ⟨T, o, hT, hn, rfl⟩
          · exact ⟨rel', Go.refl⟩
          · exact ⟨rel'.new hT hn, go_new hT⟩
        have p2 := PostS.after rel' p' g2
        cases e3 : bindT t items[i] s'.env with
        | none => rw [e3] at p2; exact p2.elim
        | some env =>
          rw [e3] at p2
          refine ⟨w', s', items[i], env, rel2, rd, e3, fun σ3 _ g3 rel3 => ⟨w', { s' with env := env }, rel3, ?_⟩⟩
          have p3 := PostS.after rel2 p2 g3
          refine PostS.turn (next := forGo t (exS C u) (items.drop (i + 1))) p3 fun s4 σ4 w4 H4 g4 r4 p4 => ⟨hlt, w4, s4, r4, ?_, PostS.after rel3 p4 g4⟩
          exact ((g'.trans g2 rel1.alloc).trans g3 rel1.alloc).trans g4 rel1.alloc
    · have e : i = items.length := by omega
      subst e
      rw [List.drop_length] at p'
      exact .inl ⟨wlk.stops H' (hG _ _ _ g'), p' σ' w' H' Go.refl rel'⟩

theorem ss_exp (he : PE X a (rdE X Z C x)) (hs : swapsWith a none pos.line X.env = pure false) : PS X (.Expr a pos) (rdS X Z C (.exp x)) := by
  refine psMono (ps_expr he hs) ?_
  rintro D σ H ⟨w, st, rel, p⟩
  refine ⟨w, st, rel, (PostS.expr (R := RV_ X.K X.mg) rel (f := fun _ s => okk Fl.nx s) p).imp ?_⟩
  rintro v H1 ⟨w1, st1, r1, rel1, rv, g1, p1, p2⟩
  exact p1 σ w1 H1 Go.refl rel1
theorem ss_doc {s : Str} {j : Nat} {p' : Pos} : PS X (.Expr (.Constant (.str s) j p') pos) (rdS X Z C .skip) := psMono ps_doc fun D σ H ⟨w, st, rel, p⟩ => p σ w H Go.refl rel
end
end Pi

set_option Elab.async false
set_option linter.all false
set_option maxRecDepth 100000
set_option maxHeartbeats 1000000
/-! PiPar: several stores at once, cells. -/
namespace Pi
open PySem L2
section
variable {X : Cx} {Z : WX} {C : Cfg} {a b c : Expr} {x y z : E} {pos : Pos} {es : List Expr}
variable {M M' : Addr → Prop} {K : PySem.W.Frag} {mg : Str → Option Value} {w w' w1 w2 : Wd} {H H' H0 H1 H2 : Hp} {st st' st1 st2 : St} {σ σ' : L2.St}

theorem RvOk.later {r : Rv} {v : V} (l : ∀ a, H0 a ≠ none → H1 a ≠ none) (h : RvOk K mg H1 w st σ H r v) : RvOk K mg H0 w st σ H r v := by
  cases r with
  | val d => exact h
  | new xs =>
    obtain ⟨a, vs, e, h1, h2, h3, h4, h5⟩ := h
    exact ⟨a, vs, e, h1, h2, h3, Classical.byContradiction fun z => l a z h4, h5⟩
/-- a fresh list stays one through a step -/
theorem RvOk.go {r : Rv} {v : V} (rel : Rel K mg w st σ H) (h : RvOk K mg H0 w st σ H r v) (g : Go (Mu w st σ) w H (Mu w' st' σ') w' H') : RvOk K mg H0 w' st' σ' H' r v := by
  cases r with
  | val d => exact RD.ext rel g.e h
  | new xs =>
    obtain ⟨a, vs, e, h1, h2, h3, h4, h5⟩ := h
    exact ⟨a, vs, e, g.keep a _ h1 h3, g.wsup a h2 h3, fun z => (g.msub a z).elim h3 (fun q => by rw [h1] at q; cases q), h4, h5.ext rel g.e⟩
/-- values that came one behind the other -/
def RRs (K : PySem.W.Frag) (mg : Str → Option Value) (H0 : Hp) (w : Wd) (st : St) (σ : L2.St) (H : Hp) : List Rv → List V → Prop
  | [], vs => vs = []
  | r :: rs, vs => ∃ v us H1, vs = v :: us ∧ RvOk K mg H0 w st σ H r v ∧ (∀ a, H0 a ≠ none → H1 a ≠ none) ∧ (∀ a, v = .ref a → (∃ xs, r = .new xs) → H1 a ≠ none) ∧ RRs K mg H1 w st σ H rs us
theorem RRs.later : ∀ {rs : List Rv} {vs : List V} {H0 H1 : Hp}, (∀ a, H0 a ≠ none → H1 a ≠ none) → RRs K mg H1 w st σ H rs vs → RRs K mg H0 w st σ H rs vs
  | [], _, _, _, _, h => h
  | r :: rs, _, _, _, l, h => by
    obtain ⟨v, us, H2, e, h1, h2, h3, h4⟩ := h
    exact ⟨v, us, H2, e, h1.later l, fun a q => h2 a (l a q), h3, h4⟩
abbrev RR_ (K : PySem.W.Frag) (mg : Str → Option Value) : Hp → Wd → St → L2.St → Hp → List Rv → List V → Prop := fun H0 w st σ H r v => RRs K mg H0 w st σ H r v
theorem laterR : Later (RR_ K mg) := fun H H1 w st σ H' r v l q => RRs.later l q
def rdR (X : Cx) (Z : WX) (C : Cfg) (e : E) : TA := fun σ H Q => ∃ w st, Rel X.K X.mg w st σ H ∧ Post X.K X.mg Z (RR_ X.K X.mg) σ H w st (evRs C e st) Q
theorem sr_nil : PA X [] (rdR X Z C .nil) := paMono pa_nil fun σ H Q ⟨w, st, rel, p⟩ => Post.ok (R := RR_ X.K X.mg) (r := []) rel p rfl
theorem sr_cons (ha : PE X a (rdE X Z C x)) (hr : PA X es (rdR X Z C y)) (hs : starEach (a :: es) X.env = (false, eval a X.env) :: starEach es X.env) : PA X (a :: es) (rdR X Z C (.cons x y)) := by
  refine paMono (pa_cons ha hr hs) ?_
  rintro σ H Q ⟨w, st, rel, p⟩
  refine ⟨w, st, rel, ?_⟩
  have p : Post X.K X.mg Z (RR_ X.K X.mg) σ H w st (bnd (evE C x st) fun r1 s => bnd (evRs C y s) fun rs s => okk (r1 :: rs) s) Q := p
  generalize evE C x st = m at p ⊢
  rcases m with _ | ⟨e | r1, st1⟩
  · exact p
  · exact p
  · intro v w1 H1 g1 rel1 rv1
    refine ⟨w1, st1, rel1, ?_⟩
    have p1 : Post X.K X.mg Z (RR_ X.K X.mg) σ H w st (bnd (evRs C y st1) fun rs s => okk (r1 :: rs) s) Q := p
    generalize evRs C y st1 = m at p1 ⊢
    rcases m with _ | ⟨e | rs, s2⟩
    · exact p1
    · exact fun cls d w' H' g r' xo => p1 cls d w' H' (g1.trans g rel.alloc) r' xo
    · intro vs w2 H2 g2 rel2 rr
      have p1 : ∀ v w' H', Go (Mu w st σ) w H (Mu w' s2 σ) w' H' → Rel X.K X.mg w' s2 σ H' → RRs X.K X.mg H w' s2 σ H' (r1 :: rs) v → Q v H' := p1
      refine p1 (v :: vs) w2 H2 (g1.trans g2 rel.alloc) rel2 ⟨v, vs, H1, rfl, rv1.go rel1 g2, g1.there, fun a e ⟨xs, e2⟩ => ?_, rr⟩
      subst e2
      obtain ⟨b, us, e3, q, _⟩ := rv1
      rw [e] at e3; cases e3
      rw [q]; intro z; cases z

/-! ### stored all -/
def setV (σ : L2.St) : List Nat → List V → L2.St
  | i :: is, v :: vs => setV (σ.set i (some v)) is vs
  | _, _ => σ
theorem RvOk.set {i : Nat} {r r2 : Rv} {v v2 : V} (c : i < st.env.length) (l : σ.length = st.env.length) (hd : ∀ a, v = .ref a → (∃ xs, r = .new xs) → H1 a ≠ none) (h : RvOk K mg H1 w st σ H r2 v2) :
    RvOk K mg H1 w { st with env := st.env.set i r.sl } (σ.set i (some v)) H r2 v2 := by
  cases r2 with
  | val d => exact h
  | new xs =>
    obtain ⟨a, vs, e, h1, h2, h3, h4, h5⟩ := h
    refine ⟨a, vs, e, h1, h2, fun z => ?_, h4, h5⟩
    rcases z with z | ⟨j, ys, e1, e2⟩
    · exact h3 (.inl z)
    · have e1 : (st.env.set i r.sl)[j]? = some (.own ys) := e1
      by_cases hj : i = j
      · subst hj
        rw [List.getElem?_set_self c] at e1
        rw [List.getElem?_set_self (by rw [l]; exact c)] at e2
        cases r with
        | val d => cases e1
        | new zs => cases e2; exact hd a rfl ⟨zs, rfl⟩ h4
      · rw [List.getElem?_set_ne hj] at e1 e2
        exact h3 (.inr ⟨j, ys, e1, e2⟩)
theorem RRs.set {i : Nat} {r : Rv} {v : V} (c : i < st.env.length) (l : σ.length = st.env.length) : ∀ {rs : List Rv} {vs : List V} {H1 : Hp}, (∀ a, v = .ref a → (∃ xs, r = .new xs) → H1 a ≠ none) → RRs K mg H1 w st σ H rs vs →
    RRs K mg H1 w { st with env := st.env.set i r.sl } (σ.set i (some v)) H rs vs
  | [], _, _, _, h => h
  | r2 :: rs, _, _, hd, h => by
    obtain ⟨v2, us, H2, e, h1, h2, h3, h4⟩ := h
    exact ⟨v2, us, H2, e, h1.set c l hd, h2, h3, RRs.set c l (fun a q q2 => h2 a (hd a q q2)) h4⟩
theorem setAll_ok : ∀ {is : List Nat} {rs : List Rv} {vs : List V} {st : St} {σ : L2.St} {H1 : Hp} {st' : St} {w0 : Wd} {M0 : Addr → Prop}, Rel K mg w st σ H → Go M0 w0 H0 (Mu w st σ) w H → (∀ a, w0.W a → H0 a ≠ none) → (∀ a, H0 a ≠ none → H1 a ≠ none) → RRs K mg H1 w st σ H rs vs →
    setAll is rs st = some st' → Go M0 w0 H0 (Mu w st' (setV σ is vs)) w H ∧ Rel K mg w st' (setV σ is vs) H ∧ is.length = vs.length
  | [], [], _, _, _, _, _, _, _, rel, g, al, l, h, e => by
    rw [show _ = [] from h]
    cases e
    exact ⟨g, rel, rfl⟩
  | i :: is, r :: rs, _, st, σ, H1, st', w0, M0, rel, g, al, l, h, e => by
    obtain ⟨v, us, H2, rfl, h1, h2, h3, h4⟩ := h
    have e : ((setT (.nm i) r st).bind fun s => setAll is rs s) = some st' := e
    cases e1 : setT (.nm i) r st with
    | none => rw [e1] at e; cases e
    | some s1 =>
      rw [e1, Option.bind_some] at e
      obtain ⟨g1, rel1⟩ := set_ok rel g al (h1.later l) e1
      obtain ⟨c, e2⟩ := setT_nm e1
      subst e2
      obtain ⟨k1, k2, k3⟩ := setAll_ok (is := is) (H1 := H2) rel1 g1 al (fun a q => h2 a (l a q)) (RRs.set c rel.len h3 h4) e
      exact ⟨k1, k2, by rw [List.length_cons, List.length_cons, k3]⟩
  | [], _ :: _, _, _, _, _, _, _, _, _, _, _, _, _, e => nomatch e
  | _ :: _, [], _, _, _, _, _, _, _, _, _, _, _, _, e => nomatch e
theorem par_rd {is : List Nat} {D : Ends} (q : rdS X Z C (.par is x) D σ H) : rdR X Z C x σ H fun vs H1 => is.length = vs.length ∧ D.nx (setV σ is vs) H1 := by
  obtain ⟨w, st, rel, p⟩ := q
  have p : PostS X.K X.mg Z σ H w st (bnd (evRs C x st) fun rs s => match setAll is rs s with
    | none => none
    | some s => okk .nx s) D := p
  refine ⟨w, st, rel, (PostS.expr (R := RR_ X.K X.mg) rel p).imp ?_⟩
  rintro vs H1 ⟨w1, st1, rs, rel1, rr, g1, _, p2⟩
  cases e : setAll is rs st1 with
  | none => rw [e] at p2; exact p2.elim
  | some s' =>
    rw [e] at p2
    obtain ⟨g2, rel2, hl⟩ := setAll_ok rel1 g1 rel.alloc (fun _ q => q) rr e
    exact ⟨hl, p2 _ w1 H1 g2 rel2⟩
theorem ss_par2 {i j : Nat} {n m : Str} {px py pt : Pos} {kt k2 : Nat} {pt2 : Pos} (hc : X.calm = true) (hN : X.N.Nodup) (hi : X.N[i]? = some n) (hj : X.N[j]? = some m) (hij : i ≠ j)
    (hx : X.env.scope.names.lookup n = some .local) (hy : X.env.scope.names.lookup m = some .local) (ha : PA X [a, b] (rdR X Z C x))
    (hw : swappedStores [.Tuple [.Name n px, .Name m py] kt pt] (.Tuple [a, b] k2 pt2) X.env = pure (some [n, m]))
    (hs : swapsWithSole [.Tuple [.Name n px, .Name m py] kt pt] (.Tuple [a, b] k2 pt2) pos.line X.env = pure false) :
    PS X (.Assign [.Tuple [.Name n px, .Name m py] kt pt] (.Tuple [a, b] k2 pt2) pos) (rdS X Z C (.par [i, j] x)) := by
  refine psMono (ps_par hc hN hi hj hij hx hy ha hw hs) ?_
  intro D σ H q
  obtain ⟨w, st, rel, p⟩ := par_rd q
  refine ⟨w, st, rel, p.imp ?_⟩
  rintro vs H1 ⟨hl, q⟩
  match vs, hl, q with
  | [u, v], _, q => exact ⟨u, v, rfl, q⟩
theorem ss_par3 {i j l : Nat} {n m o : Str} {px py pz pt : Pos} {kt k2 : Nat} {pt2 : Pos} (hc : X.calm = true) (hN : X.N.Nodup) (hi : X.N[i]? = some n) (hj : X.N[j]? = some m) (hl : X.N[l]? = some o) (hij : i ≠ j) (hil : i ≠ l) (hjl : j ≠ l)
    (hx : X.env.scope.names.lookup n = some .local) (hy : X.env.scope.names.lookup m = some .local) (hz : X.env.scope.names.lookup o = some .local) (ha : PA X [a, b, c] (rdR X Z C x))
    (hw : swappedStores [.Tuple [.Name n px, .Name m py, .Name o pz] kt pt] (.Tuple [a, b, c] k2 pt2) X.env = pure (some [n, m, o]))
    (hs : swapsWithSole [.Tuple [.Name n px, .Name m py, .Name o pz] kt pt] (.Tuple [a, b, c] k2 pt2) pos.line X.env = pure false) :
    PS X (.Assign [.Tuple [.Name n px, .Name m py, .Name o pz] kt pt] (.Tuple [a, b, c] k2 pt2) pos) (rdS X Z C (.par [i, j, l] x)) := by
  refine psMono (ps_par3 hc hN hi hj hl hij hil hjl hx hy hz ha hw hs) ?_
  intro D σ H q
  obtain ⟨w, st, rel, p⟩ := par_rd q
  refine ⟨w, st, rel, p.imp ?_⟩
  rintro vs H1 ⟨hl, q⟩
  match vs, hl, q with
  | [u, v, t], _, q => exact ⟨u, v, t, rfl, q⟩

/-! ### a list that is shared and changes -/
def Wd.cel (w : Wd) (p : Addr) : Wd := ⟨w.W, w.io ++ [p]⟩
theorem se_cell (ha : PE X a (rdE X Z C x)) : PE X a (rdE X Z C (.cell x)) := by
  refine peMono ha ?_
  rintro σ H Q ⟨w, st, rel, p⟩
  refine ⟨w, st, rel, ?_⟩
  have p : Post X.K X.mg Z (RV_ X.K X.mg) σ H w st (bnd (evE C x st) fun r s => match r with
    | .new xs => gd (isMk xs = none) (okk (.val (.ref s.sto.length)) { s with sto := s.sto ++ [xs] })
    | _ => none) Q := p
  generalize evE C x st = m at p ⊢
  rcases m with _ | ⟨e | r, s1⟩
  · exact p
  · exact p
  · intro v w1 H1 g1 rel1 rv
    cases r with
    | val d => exact p.elim
    | new xs =>
      obtain ⟨a', vs, rfl, h1, h2, h3, h4, h5⟩ := rv
      have p : Post X.K X.mg Z (RV_ X.K X.mg) σ H w st (gd (isMk xs = none) (okk (Rv.val (.ref s1.sto.length)) { s1 with sto := s1.sto ++ [xs] })) Q := p
      have nm : isMk xs = none := by
        by_cases z : isMk xs = none
        · exact z
        · rw [show ∀ m : Rs Rv, gd (isMk xs = none) m = none from fun m => if_neg z] at p; exact p.elim
      rw [show ∀ m : Rs Rv, gd (isMk xs = none) m = m from fun m => if_pos nm] at p
      have p : ∀ v w' H', Go (Mu w st σ) w H (Mu w' { s1 with sto := s1.sto ++ [xs] } σ) w' H' → Rel X.K X.mg w' { s1 with sto := s1.sto ++ [xs] } σ H' → RD X.K X.mg w' H' (.ref s1.sto.length) v → Q v H' := p
      have ext : Ext (fun _ => False) w1 H1 (w1.cel a') H1 := ⟨fun _ _ e _ => e, fun _ h => .inl h, List.prefix_append _ _⟩
      have up : ∀ d v, RD X.K X.mg w1 H1 d v → RD X.K X.mg (w1.cel a') H1 d v := fun d v => RD.mono ext (fun _ z => z.elim) d v
      have ups : ∀ d v, RDs X.K X.mg w1 H1 d v → RDs X.K X.mg (w1.cel a') H1 d v := fun d v => RDs.mono ext (fun _ z => z.elim) d v
      have na : a' ∉ w1.io := fun z => h3 (.inl z)
      refine p _ (w1.cel a') H1 ⟨g1.keep, g1.there, g1.wsub, fun b hb => ?_, g1.wsup, g1.pre.trans (List.prefix_append _ _)⟩ ⟨rel1.len, fun i d e => ?_, fun i ys e => ?_, rel1.inj, fun n ys e cm => ?_, fun n ys x e cm => ?_, fun b ps e => List.mem_append_left _ (rel1.stray b ps e), ?_, ?_, rel1.alloc⟩ ⟨a', rfl, ?_⟩
      · rcases hb with hb | hb
        · rcases List.mem_append.mp hb with hb | hb
          · exact g1.msub b (.inl hb)
          · rw [List.mem_singleton.mp hb]; exact .inr h4
        · exact g1.msub b (.inr hb)
      · obtain ⟨v, e1, e2⟩ := rel1.val i d e
        exact ⟨v, e1, up _ _ e2⟩
      · obtain ⟨b, us, e1, e2, e3, e4, e5⟩ := rel1.own i ys e
        refine ⟨b, us, e1, e2, e3, fun z => ?_, ups _ _ e5⟩
        rcases List.mem_append.mp z with z | z
        · exact e4 z
        · rw [List.mem_singleton.mp z] at e1
          exact h3 (.inr ⟨i, ys, e, e1⟩)
      · have e : (s1.sto ++ [xs])[n]? = some ys := e
        show ∃ b us, (w1.io ++ [a'])[n]? = some b ∧ _
        by_cases hn : n < s1.sto.length
        · rw [List.getElem?_append_left hn] at e
          obtain ⟨b, us, e1, e2, e3, e4⟩ := rel1.cell n ys e cm
          exact ⟨b, us, by rw [List.getElem?_append_left (by rw [rel1.slen]; exact hn)]; exact e1, e2, e3, ups _ _ e4⟩
        · have hn2 : n = s1.sto.length := by
            have := (List.getElem?_eq_some_iff.mp e).1
            rw [List.length_append, List.length_singleton] at this
            omega
          subst hn2
          rw [List.getElem?_append_right (Nat.le_refl _), Nat.sub_self] at e
          cases e
          exact ⟨a', vs, by rw [List.getElem?_append_right (by rw [rel1.slen]; exact Nat.le_refl _), rel1.slen, Nat.sub_self]; rfl, h1, h2, ups _ _ h5⟩
      · have e : (s1.sto ++ [xs])[n]? = some ys := e
        show ∃ b, (w1.io ++ [a'])[n]? = some b ∧ _
        by_cases hn : n < s1.sto.length
        · rw [List.getElem?_append_left hn] at e
          obtain ⟨b, e1, e2, e3⟩ := rel1.tab n ys x e cm
          exact ⟨b, by rw [List.getElem?_append_left (by rw [rel1.slen]; exact hn)]; exact e1, e2, e3⟩
        · have hn2 : n = s1.sto.length := by
            have := (List.getElem?_eq_some_iff.mp e).1
            rw [List.length_append, List.length_singleton] at this
            omega
          subst hn2
          rw [List.getElem?_append_right (Nat.le_refl _), Nat.sub_self] at e
          cases e
          rw [nm] at cm; cases cm
      · show (w1.io ++ [a']).length = (s1.sto ++ [xs]).length
        rw [List.length_append, List.length_append, rel1.slen]; rfl
      · show (w1.io ++ [a']).Nodup
        rw [List.nodup_append]
        exact ⟨rel1.nd, by simp, fun b hb c hc => by rw [List.mem_singleton.mp hc]; rintro rfl; exact na hb⟩
      · show (w1.io ++ [a'])[s1.sto.length]? = some a'
        rw [List.getElem?_append_right (by rw [rel1.slen]; exact Nat.le_refl _), rel1.slen, Nat.sub_self]; rfl
end
end Pi

set_option Elab.async false
set_option linter.all false
set_option maxRecDepth 100000
set_option maxHeartbeats 1000000
/-! PiPar2: several names set through a pair that the heap has for a moment. -/
namespace Pi
open PySem L2
section
variable {X : Cx} {Z : WX} {C : Cfg} {a b c : Expr} {x y z : E} {pos : Pos} {es : List Expr}
variable {M M' : Addr → Prop} {K : PySem.W.Frag} {mg : Str → Option Value} {w w' w1 w2 : Wd} {H H' H0 H1 H2 : Hp} {st st' st1 st2 : St} {σ σ' : L2.St}
theorem RRs.go (rel : Rel K mg w st σ H) (g : Go (Mu w st σ) w H (Mu w' st' σ') w' H') : ∀ {rs : List Rv} {vs : List V} {H0 : Hp}, RRs K mg H0 w st σ H rs vs → RRs K mg H0 w' st' σ' H' rs vs
  | [], _, _, h => h
  | r :: rs, _, _, h => by
    obtain ⟨v, us, H1, e, h1, h2, h3, h4⟩ := h
    exact ⟨v, us, H1, e, h1.go rel g, h2, h3, RRs.go rel g h4⟩
/-- names, one behind the other -/
def gNames : List Nat → TGs
  | [] => gNil
  | i :: is => gCons (gName i) (gNames is)
theorem gNames_set : ∀ {is : List Nat} {vs : List V} {σ : L2.St} {H : Hp} {Q : L2.St → Hp → Prop}, is.length = vs.length → Q (setV σ is vs) H → gNames is vs σ H Q
  | [], [], _, _, _, _, q => ⟨rfl, q⟩
  | i :: is, v :: vs, σ, H, Q, h, q => ⟨v, vs, rfl, gNames_set (is := is) (σ := σ.set i (some v)) (by simpa using h) q⟩
  | [], _ :: _, _, _, _, h, _ => by simp at h
  | _ :: _, [], _, _, _, h, _ => by simp at h
theorem ss_parT {is : List Nat} {ts : List Expr} {kt k2 : Nat} {pt pt2 : Pos} (hc : X.calm = true) (hl : is.length ≤ 100) (hn : ts.length = is.length) (ha : PA X es (rdR X Z C x)) (hg : PGs X ts (gNames is)) (h1 : (assignEach ts X.env).length = ts.length) (h2 : (assignEach ts X.env).findIdx? (·.1) = none)
    (hw : swappedStores [.Tuple ts kt pt] (.Tuple es k2 pt2) X.env = pure none) : PS X (.Assign [.Tuple ts kt pt] (.Tuple es k2 pt2) pos) (rdS X Z C (.par is x)) := by
  refine psMono (ps_asg (pe_tup ha) (pg_tup hc hg h1 h2) rfl hw rfl) ?_
  rintro D σ H ⟨w, st, rel, p⟩
  have p : PostS X.K X.mg Z σ H w st (bnd (evRs C x st) fun rs s => match setAll is rs s with
    | none => none
    | some s => okk .nx s) D := p
  refine ⟨w, st, rel, (PostS.expr (R := RR_ X.K X.mg) rel p).imp ?_⟩
  rintro vs H1 ⟨w1, st1, rs, rel1, rr, g1, _, p2⟩
  cases e : setAll is rs st1 with
  | none => rw [e] at p2; exact p2.elim
  | some s' =>
    rw [e] at p2
    have all : ∀ q : Addr, H1 q = none → is.length = vs.length ∧ D.nx (setV σ is vs) (upd H1 q (.tup vs)) := by
      intro q hq
      have gn : Go (Mu w1 st1 σ) w1 H1 (Mu w1 st1 σ) w1 (upd H1 q (.tup vs)) := go_new hq
      obtain ⟨g2, rel2, hlen⟩ := setAll_ok (rel1.new hq noT_tup) (g1.trans gn rel.alloc) rel.alloc (fun _ q => q) (RRs.go rel1 gn rr) e
      exact ⟨hlen, p2 _ w1 _ g2 rel2⟩
    have hlen : is.length = vs.length := by
      obtain ⟨_, _, k⟩ := setAll_ok rel1 g1 rel.alloc (fun _ q => q) rr e
      exact k
    refine ⟨Nat.le_trans (by rw [← hlen]; exact hl) (by rw [← szL_eq]; decide), fun q hq => ?_⟩
    refine ⟨q, vs, rfl, SqT.of upd_same, by rw [hn, hlen], gNames_set hlen (all q hq).2⟩
end
end Pi

set_option Elab.async false
set_option linter.all false
set_option maxRecDepth 100000
set_option maxHeartbeats 1000000
/-! PiFn: what a def promises by its meaning, calls, defs. -/
namespace Pi
open PySem L2
/-- a meaning -/
abbrev Mn := List D → List (List D) → Option (Except Xc Rv × List (List D))
/-- a cell store alone -/
def bare (sto : List (List D)) : St := ⟨[], sto⟩
def outc (m : Option (Except Xc Rv × List (List D))) : Rs Rv := m.map fun p => (p.1, bare p.2)
abbrev wz (E : XK) : WX := fun cls d _ H => E cls d H
/-- a def's promise out of its meaning -/
def spM (K : PySem.W.Frag) (mg : Str → Option Value) (n : Nat) (m : Mn) : Sp := fun vs H Q E => ∃ w ds sto, Rel K mg w (bare sto) [] H ∧ RDs K mg w H ds vs ∧ ds.length = n ∧ Post K mg (wz E) (RV_ K mg) [] H w (bare sto) (outc (m ds sto)) Q
/-- a def keeps its promise (where no repr guard runs) -/
structure FnG (P : Program) (w : World) (K : PySem.W.Frag) (mg : Str → Option Value) (base : Heap) (k : Nat) (f : Addr) (fd : FuncData) (ps : List Str) (m : Mn) : Prop where
  run : ∀ (A : Around) (outer : List Env) (s : Shared) (H : Hp) (args : Args) (us : List Value) (vs : List V) (Q : VK) (E : XK), Room k A → A.guards = some [] → Env0 P w K mg base A outer s H → BindsTo s fd args (ps.zip us) → Vals vs us →
    spM K mg ps.length m vs H Q E → codeAny (model P w) A (.call (.ref f) args) (CR (L2.CX P w) outer P w H s Q E) s
section
variable {X : Cx} {Z : WX} {C : Cfg} {a b c : Expr} {x y z : E} {pos : Pos} {es : List Expr}
variable {M M' : Addr → Prop} {K : PySem.W.Frag} {mg : Str → Option Value} {w w' w1 w2 : Wd} {H H' H0 H1 H2 : Hp} {st st' st1 st2 : St} {σ σ' : L2.St}

theorem bareMu {sto : List (List D)} {b : Addr} : Mu w (bare sto) [] b ↔ b ∈ w.io := by
  constructor
  · rintro (h | ⟨i, ys, e, _⟩)
    · exact h
    · cases (show ([] : List Sl)[i]? = some (.own ys) from e)
  · exact .inl
theorem Rel.bare (r : Rel K mg w st σ H) : Rel K mg w (bare st.sto) [] H where
  len := rfl
  val := fun i d e => nomatch (show ([] : List Sl)[i]? = some (.val d) from e)
  own := fun i d e => nomatch (show ([] : List Sl)[i]? = some (.own d) from e)
  inj := fun i j b ⟨ys, e, _⟩ _ => nomatch (show ([] : List Sl)[i]? = some (.own ys) from e)
  cell := r.cell
  tab := r.tab
  stray := r.stray
  slen := r.slen
  nd := r.nd
  alloc := r.alloc
/-- behind a call: the caller's frame stands -/
theorem Rel.unbare {sto : List (List D)} (rel : Rel K mg w st σ H) (g : Go (Mu w (Pi.bare st.sto) []) w H (Mu w' (Pi.bare sto) []) w' H') (r : Rel K mg w' (Pi.bare sto) [] H') :
    Go (Mu w st σ) w H (Mu w' { st with sto := sto } σ) w' H' ∧ Rel K mg w' { st with sto := sto } σ H' := by
  have io : ∀ {b}, Mu w (Pi.bare st.sto) [] b → w.W b := fun h => rel.ioW (bareMu.mp h)
  refine ⟨⟨fun b o e n => g.keep b o e fun q => n (.inl (bareMu.mp q)), g.there, g.wsub, fun b hb => ?_, fun b hb n => g.wsup b hb fun q => n (.inl (bareMu.mp q)), g.pre⟩,
    rel.len, fun i d e => ?_, fun i ys e => ?_, rel.inj, r.cell, r.tab, r.stray, r.slen, r.nd, r.alloc⟩
  · rcases hb with hb | hb
    · rcases g.msub b (.inl hb) with q | q
      · exact .inl (.inl (bareMu.mp q))
      · exact .inr q
    · exact .inl (.inr hb)
  · obtain ⟨v, e1, e2⟩ := rel.val i d e
    exact ⟨v, e1, RD.mono g.e (fun _ => io) _ _ e2⟩
  · obtain ⟨b, us, e1, e2, e3, e4, e5⟩ := rel.own i ys e
    have nm : ¬ Mu w (Pi.bare st.sto) [] b := fun q => e4 (bareMu.mp q)
    refine ⟨b, us, e1, g.keep b _ e2 nm, g.wsup b e3 nm, fun q => ?_, RDs.mono g.e (fun _ => io) _ _ e5⟩
    rcases g.msub b (.inl q) with q | q
    · exact nm q
    · rw [e2] at q; cases q
theorem RvOk.unbare {sto : List (List D)} {r : Rv} {v : V} (rel : Rel K mg w st σ H) (h : RvOk K mg H w' (Pi.bare sto) [] H' r v) : RvOk K mg H w' { st with sto := sto } σ H' r v := by
  cases r with
  | val d => exact h
  | new xs =>
    obtain ⟨b, us, e, h1, h2, h3, h4, h5⟩ := h
    refine ⟨b, us, e, h1, h2, fun q => ?_, h4, h5⟩
    rcases q with q | ⟨i, ys, e1, e2⟩
    · exact h3 (bareMu.mpr q)
    · obtain ⟨b', _, e3, e4, _⟩ := rel.own i ys e1
      rw [e2] at e3; cases e3
      rw [h4] at e4; cases e4

/-! ### a call -/
def callR (m : Mn) (ds : List D) (s : St) : Rs Rv := match m ds s.sto with
  | none => none
  | some (r, sto) => some (r, { s with sto := sto })
/-- the promise at a call's place -/
theorem sp_of {m : Mn} {ds : List D} {vs : List V} {Q : VK} {n : Nat} (rel : Rel K mg w st σ H) (rds : RDs K mg w H ds vs) (hn : ds.length = n) (p : Post K mg Z (RV_ K mg) σ H w st (callR m ds st) Q) : spM K mg n m vs H Q (WE Z σ) := by
  refine ⟨w, ds, st.sto, rel.bare, rds, hn, ?_⟩
  unfold callR at p
  unfold outc
  generalize m ds st.sto = r at p ⊢
  rcases r with _ | ⟨r | r, sto⟩
  · exact p
  · intro cls d w' H' g r' xo
    obtain ⟨g2, r2⟩ := rel.unbare g r'
    exact p cls d w' H' g2 r2 xo
  · intro v w' H' g r' rv
    obtain ⟨g2, r2⟩ := rel.unbare g r'
    exact p v w' H' g2 r2 (rv.unbare rel)
/-- what the context has of a def of the module -/
structure Has (X : Cx) (k : Nat) (n : Str) (m : Mn) : Prop where
  ex : ∃ (f : Addr) (fd : FuncData) (ps : List Str), X.mg n = some (.ref f) ∧ PySem.W.keepIn X.K (.ref f) = true ∧ Binds X.K fd ps [] ∧ (∀ ds sto, m ds sto ≠ none → ds.length = ps.length) ∧ FnG X.prog X.w X.K X.mg X.base k f fd ps m
theorem ran {k : Nat} {f : Addr} {fd : FuncData} {ps : List Str} {m : Mn} {pins : List (Addr × Obj)} {s : Shared} {Q : VK} {us : List Value} {vs : List V} (F : FnG X.prog X.w X.K X.mg X.base k f fd ps m) (hr : Room k X.A) (hgu : X.A.guards = some []) (hb : Binds X.K fd ps []) (tk : Takes X Z)
    (I : Inv X pins σ H s) (r : Vals vs us) (h : spM X.K X.mg ps.length m vs H Q (WE Z σ)) : wpAny (model X.prog X.w) X.A (call (.ref f) us) (EP X pins σ Q) X.xe s := by
  have hlen : us.length = ps.length := by
    obtain ⟨w, ds, sto, _, h2, h3, _⟩ := h
    rw [← r.length, h2.length, h3]
  have bd := hb s us I.kIn (by rw [List.append_nil, hlen])
  rw [List.append_nil] at bd
  have go := F.run X.A X.stack s H ⟨us, []⟩ us vs Q (WE Z σ) hr hgu I.env0 bd r h
  refine wpAny_call (codeAny_mono go ?_)
  intro res s' q
  match res, q with
  | .error e, q => exact passAt tk σ pins H s e s' I q
  | .ok (.ret u), q => exact I.after q
  | .ok .next, q => exact q.elim
  | .ok .brk, q => exact q.elim
  | .ok .cont, q => exact q.elim
theorem evCall {n : Str} {s : St} : evE C (.call n x) s = bnd (evL C x s) fun ds s => callR (C.fns n) ds s := rfl
theorem se_call {n : Str} {p : Pos} {k : Nat} (F : Has X k n (C.fns n)) (hr : Room k X.A) (hgu : X.A.guards = some []) (hg : Gl X n) (tk : Takes X Z) (ha : PA X (a :: es) (rdL X Z C x))
    (hdb : (n == ("__debug__" : Str)) = false) (he : starEach (a :: es) X.env = (false, eval a X.env) :: starEach es X.env) (hpl : (backTo pos (starEach es X.env)).any (·.1) = false) :
    PE X (.Call (.Name n p) (a :: es) [] pos) (rdE X Z C (.call n x)) := by
  obtain ⟨f, fd, ps, hm, hk, hb, har, F⟩ := F
  refine ⟨fun pins s σ H Q I q => ?_⟩
  obtain ⟨w, st, rel, q⟩ := q
  rw [evCall] at q
  refine wpAny_Call_Name_kw (ld_glob I hg hm ?_ hdb)
  have q1 : rdL X Z C x σ H fun vs H1 => spM X.K X.mg ps.length (C.fns n) vs H1 Q (WE Z σ) := by
    refine ⟨w, st, rel, (Post.seq (R := RL_ X.K X.mg) rel laterV q).imp ?_⟩
    rintro vs H1 ⟨w1, st1, ds, rel1, rds, g1, p1⟩
    refine sp_of rel1 rds (har ds st1.sto fun z => ?_) p1
    unfold callR at p1
    rw [z] at p1
    exact p1
  refine PySem.W.callWith_K (h₀ := X.base) I.ok.mod.kin hk (thn (ha.run pos pins s σ H _ I q1) fun us s1 hus => ?_) he hpl
  obtain ⟨vs, H1, I1, r, q⟩ := hus
  exact ⟨I1.kIn, ran F hr hgu hb tk I1 r q⟩
theorem se_call0 {n : Str} {p : Pos} {k : Nat} (F : Has X k n (C.fns n)) (hr : Room k X.A) (hgu : X.A.guards = some []) (hg : Gl X n) (tk : Takes X Z) (hdb : (n == ("__debug__" : Str)) = false) :
    PE X (.Call (.Name n p) [] [] pos) (rdE X Z C (.call n .nil)) := by
  obtain ⟨f, fd, ps, hm, hk, hb, har, F⟩ := F
  refine ⟨fun pins s σ H Q I q => ?_⟩
  obtain ⟨w, st, rel, q⟩ := q
  rw [evCall] at q
  refine wpAny_Call_Name_kw (ld_glob I hg hm ?_ hdb)
  have q1 : spM X.K X.mg ps.length (C.fns n) [] H Q (WE Z σ) := by
    have q0 : Post X.K X.mg Z (RV_ X.K X.mg) σ H w st (callR (C.fns n) [] st) Q := q
    refine sp_of (ds := []) rel (show RDs X.K X.mg w H [] [] from rfl) (har [] st.sto fun z => ?_) q0
    unfold callR at q0
    rw [z] at q0
    exact q0
  exact PySem.W.callWith_K0 I.kIn hk (ran (us := []) F hr hgu hb tk I .nil q1)

/-! ### a def -/
/-- the frame at the entry -/
def entry (n : Nat) (ds : List D) (sto : List (List D)) : St := ⟨ds.map .val ++ List.replicate n Sl.no, sto⟩
theorem entry_no {n : Nat} {ds : List D} {sto : List (List D)} {i : Nat} {xs : List D} : (entry n ds sto).env[i]? ≠ some (.own xs) := by
  intro e
  have e : (ds.map Sl.val ++ List.replicate n Sl.no)[i]? = some (.own xs) := e
  by_cases h : i < (ds.map Sl.val).length
  · rw [List.getElem?_append_left h, List.getElem?_map] at e
    cases q : ds[i]? with
    | none => rw [q] at e; cases e
    | some d => rw [q] at e; cases e
  · rw [List.getElem?_append_right (by omega), List.getElem?_replicate] at e
    split at e <;> cases e
theorem entryMu {n : Nat} {ds : List D} {sto : List (List D)} {b : Addr} : Mu w (entry n ds sto) σ b ↔ b ∈ w.io := by
  constructor
  · rintro (h | ⟨i, ys, e, _⟩)
    · exact h
    · exact absurd e entry_no
  · exact .inl
theorem Rel.entry {ds : List D} {vs : List V} {sto : List (List D)} {N : List Str} (r : Rel K mg w (Pi.bare sto) [] H) (rds : RDs K mg w H ds vs) (hl : ds.length ≤ N.length) : Rel K mg w (Pi.entry (N.length - ds.length) ds sto) (start N vs) H where
  len := by
    show (vs.map some ++ List.replicate (N.length - vs.length) none).length = (ds.map Sl.val ++ List.replicate (N.length - ds.length) Sl.no).length
    simp [rds.length]
  val := fun i d e => by
    have e : (ds.map Sl.val ++ List.replicate (N.length - ds.length) Sl.no)[i]? = some (.val d) := e
    by_cases h : i < (ds.map Sl.val).length
    · rw [List.getElem?_append_left h, List.getElem?_map] at e
      cases q : ds[i]? with
      | none => rw [q] at e; cases e
      | some d' =>
        rw [q] at e
        cases e
        obtain ⟨v, h1, h2⟩ := rds.get q
        refine ⟨v, ?_, h2⟩
        show (vs.map some ++ List.replicate (N.length - vs.length) none)[i]? = _
        rw [List.getElem?_append_left (by rw [List.length_map, rds.length]; simpa using h), List.getElem?_map, h1]
        rfl
    · rw [List.getElem?_append_right (by omega), List.getElem?_replicate] at e
      split at e <;> cases e
  own := fun i xs e => absurd e entry_no
  inj := fun i j b ⟨ys, e, _⟩ _ => absurd e entry_no
  cell := r.cell
  tab := r.tab
  stray := r.stray
  slen := r.slen
  nd := r.nd
  alloc := r.alloc
theorem RtOk.ret {n : Nat} {ds : List D} {sto : List (List D)} {r : Rv} {v : V} (h : RtOk K mg w (Pi.entry n ds sto) σ H w' st' σ' H' r v) : RvOk K mg H w' (Pi.bare st'.sto) [] H' r v := by
  cases r with
  | val d => exact h
  | new xs =>
    obtain ⟨b, us, e, h1, h2, h3, h4, h5⟩ := h
    exact ⟨b, us, e, h1, h2, fun q => h3 (.inl (bareMu.mp q)), h4.elim id fun q => absurd (entryMu.mp q.1) q.2, h5⟩
theorem Go.ret {n : Nat} {ds : List D} {sto : List (List D)} (g : Go (Mu w (Pi.entry n ds sto) σ) w H (Mu w' st' σ') w' H') : Go (Mu w (Pi.bare sto) []) w H (Mu w' (Pi.bare st'.sto) []) w' H' where
  keep := fun b o e n => g.keep b o e fun q => n (bareMu.mpr (entryMu.mp q))
  there := g.there
  wsub := g.wsub
  msub := fun b h => (g.msub b (.inl (bareMu.mp h))).imp (fun q => bareMu.mpr (entryMu.mp q)) id
  wsup := fun b h n => g.wsup b h fun q => n (bareMu.mpr (entryMu.mp q))
  pre := g.pre
/-- a body's meaning -/
def outF (m : Rs Fl) : Option (Except Xc Rv × List (List D)) := match m with
  | none => none
  | some (.error x, s) => some (.error x, s.sto)
  | some (.ok (.ret r), s) => some (.ok r, s.sto)
  | some (.ok .nx, s) => some (.ok (.val .non), s.sto)
  | _ => none
theorem run_eq {f : Fn} {ds : List D} {sto : List (List D)} (h : ds.length = f.nps) : f.run C ds sto = outF (exS C f.body (entry (f.nsl - f.nps) ds sto)) := by
  unfold Fn.run
  rw [show ∀ m : Option (Except Xc Rv × List (List D)), gd (ds.length = f.nps) m = m from fun m => if_pos h]
  rfl
theorem run_len {f : Fn} {ds : List D} {sto : List (List D)} (h : f.run C ds sto ≠ none) : ds.length = f.nps := by
  unfold Fn.run at h
  by_cases q : ds.length = f.nps
  · exact q
  · exact absurd (if_neg q) h
/-- the body's end -/
theorem body_post {m : Rs Fl} {n : Nat} {ds : List D} {sto : List (List D)} {Q : VK} {E : XK} (p : Post K mg (wz E) (RV_ K mg) [] H w (Pi.bare sto) (outc (outF m)) Q) :
    PostS K mg (wz E) σ H w (Pi.entry n ds sto) m { nx := fun _ H' => Q .non H', rt := Q } := by
  rcases m with _ | ⟨x | fl, s1⟩
  · exact p
  · intro cls d σ' w' H' g r xo
    exact p cls d w' H' g.ret r.bare xo
  · intro σ' w' H' g r
    cases fl with
    | nx => exact p .non w' H' g.ret r.bare rfl
    | ret rv => exact fun v q => p v w' H' g.ret r.bare q.ret
    | brk => exact p
    | cnt => exact p

/-- what a body has: the context's shape -/
structure Body (P : Program) (w : World) (K : PySem.W.Frag) (mg : Str → Option Value) (base : Heap) (k : Nat) (N : List Str) (sc : Scope) (qual : Str) (cdv : Value) (X : Cx) (Z : WX) : Prop where
  prog : X.prog = P
  w : X.w = w
  K : X.K = K
  mg : X.mg = mg
  base : X.base = base
  N : X.N = N
  sc : X.env.scope = sc
  calm : X.calm = true
  room : Room k X.A
  gu : X.A.guards = some []
  fn : ∀ n, X.fn n = true
  own : PassesOwn (model X.prog X.w) X.A X.env X.xe
  tk : Takes X Z
  code : X.env.code = cdv
  qual : X.env.qual = lq qual
/-- a def of the text, by its body -/
theorem fn_pi {P : Program} {w : World} {K : PySem.W.Frag} {mg : Str → Option Value} {base : Heap} {k : Nat} {f : Addr} {name qual : Str} {params : Arguments} {body : List Stmt} {scope : Scope} {dV kV doc pm cdv ct oc : Value} {an od : Option Addr}
    {osl : Array (Option Value)} {N ps : List Str} {C : Cfg} {fn : Fn} (lk : K.lookup f = some ⟨oc, od, .func (PySem.W.fnOf name qual params body scope dV kV doc pm an cdv ct), osl⟩) (hcd : PySem.W.codeIn K cdv qual = true) (S : FnScope N ps scope)
    (hn : fn.nps = ps.length) (hN : fn.nsl = N.length) (hbody : ∀ X Z, Body P w K mg base k N scope qual cdv X Z → PSs X body (rdS X Z C fn.body)) :
    FnG P w K mg base (k + 1) f (PySem.W.fnOf name qual params body scope dV kV doc pm an cdv ct) ps (fn.run C) := by
  refine ⟨fun A outer s H args us vs Q E room gu e0 bd r sp => ?_⟩
  obtain ⟨w1, ds, sto, rel, rds, hds, p⟩ := sp
  have hvs : vs.length = ps.length := by rw [rds.length, hds]
  have kin : K.In s.heap := e0.mod.kin.keeps fun b o q => (e0.bs b o q).1
  have hpl : ps.length ≤ N.length := by
    have := congrArg List.length S.pre
    rw [List.length_take] at this
    omega
  have kinds : ∀ y ∈ ps.zip us, scope.names.lookup y.1 = some .local ∨ (scope.names.lookup y.1 = some .cell ∧ ((cellsFrom (s.heap.objs.size + 1) scope.names []).lookup y.1).isSome = true) := by
    rintro ⟨n, v⟩ hy
    exact (S.par n (List.of_mem_zip hy).1).imp id fun q => ⟨q, PySem.W.cellsFrom_some _ _ _ (.inl q)⟩
  refine codeAny_call_function room.depth (kin _ _ lk) rfl S.co S.gen rfl (PySem.W.codeRec_of kin hcd) (bd _ _ _ _ (wpAny_newFunctionEnv_cells S.kind kinds ?_))
  intro env he s1 x
  subst he
  have nolim : s.heap.NoLimit := e0.mod.nolimit.keeps fun b o q => (e0.bs b o q).1
  refine ⟨nolim.keeps x.toInCall.keep, codeAny_func ?_⟩
  have I := inv_start (CX := L2.CX P w) (E := E) S room.hd e0 hvs r x
  have B : Body P w K mg base k N scope qual cdv (cxOf (L2.CX P w) P w K mg base N qual scope f cdv A outer s H E) (wz E) := by
    refine ⟨rfl, rfl, rfl, rfl, rfl, rfl, rfl, rfl, room.deeper _, ?_, fun _ => rfl, ?_, takes_of rfl rfl rfl rfl, rfl, rfl⟩
    · show (A.deeper _).guards = some []
      rw [← gu]; rfl
    · exact passes_of rfl
  have run := (hbody _ _ B).run [] s1 (start N vs) H { nx := fun _ H' => Q .non H', rt := Q } I
  have hq : rdS (cxOf (L2.CX P w) P w K mg base N qual scope f cdv A outer s H E) (wz E) C fn.body { nx := fun _ H' => Q .non H', rt := Q } (start N vs) H := by
    refine ⟨w1, Pi.entry (N.length - ds.length) ds sto, rel.entry rds (by omega), body_post ?_⟩
    rw [run_eq (by rw [hds, hn]), hN, hn, ← hds] at p
    exact p
  refine wpAny_mono (run hq) ?_ fun _ _ q => q
  intro fl s' q
  match fl, q with
  | .ret u, ⟨v, σ', H', J, rv, q⟩ => exact ⟨v, H', J.os, J.bare, J.base, J.hok, rv, q⟩
  | .next, ⟨σ', H', J, q⟩ => exact ⟨.non, H', J.os, J.bare, J.base, J.hok, rfl, q⟩
  | .brk, ⟨_, _, _, q⟩ => exact q.elim
  | .cont, ⟨_, _, _, q⟩ => exact q.elim
end
end Pi

set_option Elab.async false
set_option linter.all false
set_option maxRecDepth 100000
set_option maxHeartbeats 2000000
/-! PiNew: lambdas handed to a def that tells their end, raise, defs held by names, how many unlike items. -/
namespace Pi
open PySem PySem.Spec PyProof.Rows L2
/-! ### how many unlike items -/
theorem met_fold : ∀ (l acc : List Int), met acc l = l.foldl PyProof.Rows.step_dedup acc
  | [], _ => rfl
  | x :: r, acc => by
    rw [List.foldl_cons, ← met_fold r]
    rfl
theorem met_first (ns : List Int) : PyProof.Rows.firstMet (fun i => ns.getD i 0) ns.length = met [] ns := by
  have e : (List.range ns.length).map (fun i => ns.getD i 0) = ns := by
    apply List.ext_getElem?
    intro i
    by_cases h : i < ns.length
    · rw [List.getElem?_map, List.getElem?_range h, Option.map_some, List.getD_eq_getElem?_getD, List.getElem?_eq_getElem h]; rfl
    · rw [List.getElem?_eq_none (by simpa using h), List.getElem?_eq_none (by omega)]
  rw [met_fold]
  show ((List.range ns.length).map fun i => ns.getD i 0).foldl _ _ = _
  rw [e]
theorem ints_vals : ∀ {ns : List Int} {us : List Value}, Vals (ns.map V.int) us → PyProof.Rows.IntsAre us ns
  | [], _, h => by cases h; exact .nil
  | n :: ns, _, h => by
    cases h with
    | cons r t => obtain ⟨k, rfl⟩ := r; exact .cons n k (ints_vals t)
section
variable {X : Cx} {Z : WX} {C : Cfg} {a b c : Expr} {x y z : E} {pos pos' : Pos} {es : List Expr}
variable {w w' w1 w2 : Wd} {H H' H1 H2 : Hp} {st st' st1 st2 : St} {σ σ' : L2.St}
theorem pe_unlike {ta : TE} {p p2 q : Pos} (g1 : Gl X "len") (n1 : X.mg "len" = none) (g2 : Gl X "set") (n2 : X.mg "set" = none) (ha : PE X a ta) (hc : X.calm = true) (na : starEach [a] X.env = [(false, eval a X.env)]) :
    PE X (.Call (.Name "len" p) [.Call (.Name "set" p2) [a] [] q] [] pos) (fun σ H Q => ta σ H fun v H1 => ∃ (l : Addr) (ns : List Int), v = .ref l ∧ SqL X.K H1 l (ns.map V.int) ∧ ns.length ≤ 4000 ∧ Q (.int ((met [] ns).length : Nat)) H1) := by
  refine ⟨fun pins s σ H Q I h => Call_ (ld_blt I g1 n1 boot_len ?_)⟩
  refine PyProof.Rows.callWith_builtin1 (PyProof.Rows.args_cons (Call_ (ld_blt I g2 n2 boot_set ?_)) rfl) rfl rfl
  refine PyProof.Rows.callWith_type1 (PyProof.Rows.args_cons (thn (ha.run pins s σ H _ I h) fun v s1 hv => PyProof.Rows.args_nil ?_) na) na rfl
  obtain ⟨v', H1, J, rv, l, ns, rfl, sq, small, post⟩ := hv
  cases rv
  obtain ⟨its, rvs, pl, _⟩ := J.list sq
  have size : its.toArray.size = ns.length := by rw [List.size_toArray, ← rvs.length, List.length_map]
  refine call_set_list (J.ok.hd hc) pl.isList (by simpa using ints_vals rvs) (by rw [size]; unfold scanBound; omega) fun h' tk isSet same => PyProof.Rows.args_nil ?_
  rw [size, met_first] at isSet
  obtain ⟨o, ents, ep, t, there, exact', data, _, _, _, fits, count⟩ := isSet
  have J2 : Inv X pins σ H1 { s1 with heap := h', toks := tk } := J.kept fun b o e => same b o (Heap.lt_size e) e
  have le : (met [] ns).length ≤ ns.length := by
    rw [← met_first]
    exact PyProof.Rows.firstMet_length_le _ _
  exact call_len_set there exact' data fits (by rw [count]; omega) ⟨.int (met [] ns).length, H1, J2.tok _, ⟨_, by rw [count]⟩, post⟩
theorem se_lset {p p2 q : Pos} (g1 : Gl X "len") (n1 : X.mg "len" = none) (g2 : Gl X "set") (n2 : X.mg "set" = none) (ha : PE X a (rdE X Z C x)) (hc : X.calm = true) (na : starEach [a] X.env = [(false, eval a X.env)]) :
    PE X (.Call (.Name "len" p) [.Call (.Name "set" p2) [a] [] q] [] pos) (rdE X Z C (.lset x)) := by
  refine peMono (pe_unlike g1 n1 g2 n2 (se_val ha) hc na) ?_
  rintro σ H Q ⟨w, st, rel, p⟩
  have p : Post X.K X.mg Z (RV_ X.K X.mg) σ H w st (bnd (fz (evE C x st)) fun d s => lift (lsetOp d) s) Q := p
  refine ⟨w, st, rel, (Post.seq (R := RD_ X.K X.mg) rel laterV p).imp ?_⟩
  rintro v H1 ⟨w1, st1, d, rel1, rd, g1, p1⟩
  obtain ⟨rv, e, p1⟩ := lift_some p1
  unfold lsetOp at e
  split at e
  · rename_i xs
    obtain ⟨l, e1, e2⟩ := Option.bind_eq_some_iff.mp e
    obtain ⟨c1, e2⟩ := gd_some e2
    cases e2
    obtain ⟨a', vs, rfl, ha', r⟩ := rd
    obtain ⟨ev, _⟩ := r.ints e1
    exact ⟨a', l, rfl, by rw [← ev]; exact SqL.of ha'.1, c1, p1 _ w1 H1 Go.refl rel1 rfl⟩
  · cases e

/-! ### a def held by a name -/
theorem se_callv {i : Nat} {n : Str} {p : Pos} {k : Nat} (F : ∀ f, C.dfs f = true → Has X k f (C.fns f)) (hr : Room k X.A) (hgu : X.A.guards = some []) (hv : PE X (.Name n p) (tVar i)) (tk : Takes X Z) (ha : PA X (a :: es) (rdL X Z C x))
    (he : starEach (a :: es) X.env = (false, eval a X.env) :: starEach es X.env) (hpl : (backTo pos (starEach es X.env)).any (·.1) = false) :
    PE X (.Call (.Name n p) (a :: es) [] pos) (rdE X Z C (.callv i x)) := by
  refine ⟨fun pins s σ H Q I q => ?_⟩
  obtain ⟨w, st, rel, q⟩ := q
  have q : Post X.K X.mg Z (RV_ X.K X.mg) σ H w st (match Sl.at st.env i with
    | .val (.fn f) => gd (C.dfs f = true) (bnd (evL C x st) fun ds s => match C.fns f ds s.sto with
      | none => none
      | some (r, sto) => some (r, { s with sto := sto }))
    | _ => none) Q := q
  cases e : Sl.at st.env i with
  | no => rw [e] at q; exact q.elim
  | own _ => rw [e] at q; exact q.elim
  | val d =>
  rw [e] at q
  cases d with
  | fn f =>
    have q : Post X.K X.mg Z (RV_ X.K X.mg) σ H w st (gd (C.dfs f = true) (bnd (evL C x st) fun ds s => callR (C.fns f) ds s)) Q := q
    by_cases hf : C.dfs f = true
    · rw [show ∀ m : Rs Rv, gd (C.dfs f = true) m = m from fun m => if_pos hf] at q
      obtain ⟨v, h1, fa, rfl, hm⟩ := rel.val i _ (at_some e (by intro z; cases z))
      obtain ⟨f', fd, ps, hm', hk, hb, har, G⟩ := F f hf
      rw [hm] at hm'
      cases hm'
      refine wpAny_Call_Name_kw (thn (hv.run pins s σ H (fun v G => v = .ref fa ∧ G = H) I ⟨.ref fa, h1, rfl, rfl⟩) fun u s1 hu => ?_)
      obtain ⟨v, G', J, rv, ev, eG⟩ := hu
      subst ev
      rw [eG] at J
      cases rv
      have q1 : rdL X Z C x σ H fun vs H1 => spM X.K X.mg ps.length (C.fns f) vs H1 Q (WE Z σ) := by
        refine ⟨w, st, rel, (Post.seq (R := RL_ X.K X.mg) rel laterV q).imp ?_⟩
        rintro vs H1 ⟨w1, st1, ds, rel1, rds, g1, p1⟩
        refine sp_of rel1 rds (har ds st1.sto fun z => ?_) p1
        unfold callR at p1
        rw [z] at p1
        exact p1
      refine PySem.W.callWith_K (h₀ := X.base) J.ok.mod.kin hk (thn (ha.run pos pins s1 σ H _ J q1) fun us s2 hus => ?_) he hpl
      obtain ⟨vs, H1, I1, r, q⟩ := hus
      exact ⟨I1.kIn, ran G hr hgu hb tk I1 r q⟩
    · rw [show ∀ m : Rs Rv, gd (C.dfs f = true) m = none from fun m => if_neg hf] at q
      exact q.elim
  | _ => exact q.elim

/-! ### raise -/
/-- a class of the text that is raised without anything in it -/
structure ExcC (K : PySem.W.Frag) (mg : Str → Option Value) (n : Str) : Prop where
  ex : ∃ c : Addr, mg n = some (.ref c) ∧ PySem.W.excIn K c [.type "ValueError", .type "Exception", .type "BaseException", .type "object"] "ValueError.__new__" = true ∧ PySem.W.keepIn K (.ref c) = true ∧
    PySem.W.subIn K (.ref c) (.type "BaseException") = some true ∧ PySem.W.typeIn K (.ref c) = some (.type "type")
theorem pmk_none {c : Addr} {n : Str} {p : Pos} (e1 : X.mg n = some (.ref c)) (e2 : PySem.W.excIn X.K c [.type "ValueError", .type "Exception", .type "BaseException", .type "object"] "ValueError.__new__" = true) (e3 : PySem.W.keepIn X.K (.ref c) = true)
    (r : Raises X (.ref c)) (hg : Gl X n) (hdb : (n == ("__debug__" : Str)) = false) : PMk X (.Call (.Name n p) [] [] pos) (fun _ H Q => Q (.ref c) none H) := by
  intro pins s σ H Q I h
  refine wpAny_Call_Name_kw (ld_glob I hg e1 ?_ hdb)
  refine PySem.W.callWith_K0 I.kIn e3 ?_
  obtain ⟨bm, N, nm, qn, bs, hdct, sn, sub, ab, col, dd, k0, k1, k2, k3, k5, mN, hC, hN, none', T⟩ := exc_obj I.kIn e2
  refine wpAny_call_exc_subT PySem.F.excBase_ValueError T hC hN none' (fun h' e made => ?_) (Nat.zero_le _)
  exact mk_of I made r h (I.hok.gone made.new)
theorem ss_raise {n : Str} {p : Pos} (E : ExcC X.K X.mg n) (hc : X.calm = true) (tk : Takes X Z) (hg : Gl X n) (hdb : (n == ("__debug__" : Str)) = false) : PS X (.Raise (some (.Call (.Name n p) [] [] pos)) none pos') (rdS X Z C (.raise n)) := by
  obtain ⟨c, e1, e2, e3, e4, e5⟩ := E
  refine psMono (ps_raise hc tk (pmk_none e1 e2 e3 (raises_own e4 e5) hg hdb)) ?_
  rintro D σ H ⟨w, st, rel, p⟩
  exact p (.ref c) none σ w H Go.refl rel ⟨rfl, c, e1, rfl⟩
end
end Pi

set_option Elab.async false
set_option linter.all false
set_option maxRecDepth 100000
set_option maxHeartbeats 2000000
/-! PiLam: a lambda handed to a def of the text that calls it in a try and tells a word of its end. -/
namespace Pi
open PySem PySem.Spec PyProof.Rows L2 LamX
/-! ### the lambda is made -/
/-- no table where none was -/
def NoNew (H H' : Hp) : Prop := ∀ b ps, H' b = some (.tbl ps) → ∃ qs, H b = some (.tbl qs)
section
variable {X : Cx} {pins : List (Addr × Obj)} {σ : L2.St} {H HZ : Hp} {s : Shared}
abbrev lamObj (X : Cx) (params : Arguments) (body : Expr) (scope : Scope) (pm : Value) (c : Addr) (ctv : Value) : Obj :=
  PySem.W.kla_obj "<lambda>" (X.env.qual ++ "<lambda>") params body scope (cloFrom X.env.cells scope.names []) pm c ctv
theorem made {T : List (Addr × Str)} {c P : Addr} {params : Arguments} {body : Expr} {scope : Scope} {pos : Pos} {E Q : Value → Shared → Prop} (I : Inv X pins σ H s) (B : TabB X.base X.mg c P) (code : X.env.code = .ref c)
    (mem : (P, X.env.qual ++ "<lambda>") ∈ T) (uniq : ∀ p ∈ T, p.1 = P → p.2 = X.env.qual ++ "<lambda>") (tabs : Tabs T H) (nodef : defaultsOf params X.env = ([], [])) (free : ∀ y ∈ scope.names, y.2 = .free → ∃ c, X.env.cells.lookup y.1 = some c)
    (k : ∀ (f c' : Addr) (pm ctv : Value) (H1 : Hp) (s' : Shared), Inv X pins σ H1 s' → ExtN H H1 → NoNew H H1 → Tabs T H1 → s'.heap.get? f = some (lamObj X params body scope pm c' ctv) → H1 f = none → f ∉ frs X.stack →
      H1 c' = some (CodeO c' (X.env.qual ++ "<lambda>")) → Q (.ref f) s') :
    wpAny (model X.prog X.w) X.A (eval (.Lambda params body scope pos) X.env) Q E s := by
  obtain ⟨ps, there, triples, among⟩ := tabs _ mem
  have away : ∀ f, s.heap.objs.size ≤ f → f ∉ frs X.stack := by
    intro f hf z
    rcases List.mem_cons.mp (I.stkSub _ z) with e | e
    · exact absurd I.lt (by rw [← e]; exact Nat.not_lt.mpr hf)
    · exact I.nofs hf e
  have real : s.heap.get? P = some { cls := .none, data := .fields ps } := I.hok P _ there
  refine PySem.W.kla_eval nodef ?_
  rcases known : codeAmong pos ps.toList with _ | cv
  · -- a new code object
    refine PySem.W.kla_makeFunction (mg := X.mg) (c := c) (P := P) (ps := ps) (closure_ok free) I.ok.glob (I.mod.glob.keeps I.bk) code (B.code.keeps I.bk) real triples known B.gP (B.bm.keeps I.bk) ?_
    intro c' ctv h' tk stay ge lt rec_ grown
    obtain ⟨c2, oc, vs, t, e2, hoc, hd, hv⟩ := rec_
    cases e2
    have old : s.heap.objs.size ≤ h'.objs.size := Nat.le_of_lt (Nat.lt_of_le_of_lt ge lt)
    have nc : H c' = none := I.hok.fresh ge
    obtain ⟨ps', eps⟩ : ∃ ps', ps' = ps ++ #[rawInt pos.line, rawInt pos.col, .ref c'] := ⟨_, rfl⟩
    have J := inv_table (t' := tk) (more := #[rawInt pos.line, rawInt pos.col, .ref c']) (h' := h'.push (lamObj X params body scope ((X.mg "__name__").getD .none) c' ctv)) I there
      (fun b o hb e => Heap.get?_push_of_some _ (stay b o hb e)) (Heap.get?_push_of_some _ grown) ge ⟨oc, vs, t, Heap.get?_push_of_some _ hoc, hd, hv⟩
    rw [← eps] at J
    have atP : ∀ {b : Addr}, b ≠ P → b ≠ c' → upd (upd H P (.tbl ps')) c' (CodeO c' (X.env.qual ++ "<lambda>")) b = H b := fun h1 h2 => by rw [upd_ne h2, upd_ne h1]
    have Pc : P ≠ c' := ne_of_none there nc
    have ext : ExtN H (upd (upd H P (.tbl ps')) c' (CodeO c' (X.env.qual ++ "<lambda>"))) := by
      intro b o e n
      rw [atP (fun z => ?_) (ne_of_none e nc)]
      · exact e
      · rw [z, there] at e
        cases e
        exact n _ rfl
    have nonew : NoNew H (upd (upd H P (.tbl ps')) c' (CodeO c' (X.env.qual ++ "<lambda>"))) := by
      intro b qs e
      by_cases hc : b = c'
      · rw [hc, upd_same] at e
        unfold CodeO at e
        cases e
      · by_cases hp : b = P
        · rw [hp]; exact ⟨_, there⟩
        · rw [atP hp hc] at e; exact ⟨_, e⟩
    refine k h'.objs.size c' _ ctv _ _ J ext nonew (fun p hp => ?_) (Heap.get?_push_size _ rfl) ?_ (away _ old) upd_same
    · by_cases hb : p.1 = P
      · rw [uniq p hp hb, hb]
        refine ⟨ps', by rw [upd_ne Pc, upd_same], by rw [eps]; simpa using PySem.TriplesOk_snoc _ _ _ _ triples, fun p' cv hcv => ?_⟩
        rw [eps, Array.toList_append] at hcv
        rcases among_app _ triples hcv with z | z
        · obtain ⟨c0, e1, e2⟩ := among p' cv z
          exact ⟨c0, e1, ext _ _ e2 codeO_ne⟩
        · exact ⟨c', z, upd_same⟩
      · obtain ⟨qs, a1, a2, a3⟩ := tabs p hp
        refine ⟨qs, by rw [atP hb (ne_of_none a1 nc)]; exact a1, a2, fun p' cv hcv => ?_⟩
        obtain ⟨c0, e1, e2⟩ := a3 p' cv hcv
        exact ⟨c0, e1, ext _ _ e2 codeO_ne⟩
    · rw [atP (Nat.ne_of_gt (Nat.lt_of_lt_of_le (Heap.lt_size real) old)) (Nat.ne_of_gt lt)]
      exact I.hok.fresh old
  · -- it stands in the table
    obtain ⟨c', rfl, hco⟩ := among pos cv known
    refine PySem.W.kla_makeFunctionHit (mg := X.mg) (c := c) (P := P) (ps := ps) (closure_ok free) I.ok.glob (I.mod.glob.keeps I.bk) code (B.code.keeps I.bk) real triples known (B.bm.keeps I.bk) ?_
    intro ctv h' tk stay old
    have J : Inv X pins σ H { s with heap := h'.push (lamObj X params body scope ((X.mg "__name__").getD .none) c' ctv), toks := tk } := I.kept fun b o e => Heap.get?_push_of_some _ (stay b o e)
    exact k h'.objs.size c' _ ctv H _ J (ExtN.refl H) (fun b qs e => ⟨qs, e⟩) tabs (Heap.get?_push_size _ rfl) (I.hok.fresh old) (away _ old) hco

/-! ### the lambda is called -/
theorem acted {Eg E : XK} {Ng : List Str} {qg a : Str} {sg scope : Scope} {g f c : Addr} {cdg pm ctv : Value} {params : Arguments} {body : Expr} {k i : Nat} {pn : List (Addr × Obj)} {xe : Value → Shared → Prop} {W : WX} {tb : TE} {p1 p2 : Pos}
    (I : Inv X pins σ H s) (L : LamS X.env.scope scope) (here : s.heap.get? f = some (lamObj X params body scope pm c ctv)) (un0 : H f = none) (apart : f ∉ frs X.stack)
    (bind : bindArgs (PySem.W.kla_fn "<lambda>" (X.env.qual ++ "<lambda>") params body scope (cloFrom X.env.cells scope.names []) pm (.ref c) ctv) ⟨[], []⟩ = pure [])
    (tk : L2.Takes ((cxOf C8.CX0 X.prog X.w X.K X.mg X.base Ng qg sg g cdg X.A X.stack s H Eg).tr pn xe) W) (hW : ∀ cls d σ' H', E cls d H' → W cls d σ' H') (room : Room (k + 1) (X.A.deeper (envOfC qg sg s.heap.objs.size g cdg))) (gu : X.A.guards = some [])
    (says : ∀ (A : Around) (outer : List Env) (s : Shared) (H : Hp), A.guards = some [] → Room k (A.deeper (lamEnv X scope s.heap.objs.size f c)) → PE (lamCx X A outer s H E scope f c) body tb)
    (hN : Ng[i]? = some a) (hv : Vis sg a) (hd : (a == ("__debug__" : Str)) = false) (hcd : (a == ("__classdict__" : Str)) = false) :
    PE ((cxOf C8.CX0 X.prog X.w X.K X.mg X.base Ng qg sg g cdg X.A X.stack s H Eg).tr pn xe) (.Call (.Name a p1) [] [] p2) (fun σZ HZ Q => σZ[i]? = some (some (.ref f)) ∧ HZ c = some (CodeO c (X.env.qual ++ "<lambda>")) ∧ tb σ HZ Q) := by
  refine ⟨fun pz sz σz hz Q IZ w => ?_⟩
  obtain ⟨w1, w2, w3⟩ := w
  refine wpAny_Call_Name_kw (thn ((pe_var (pos := p1) (i := i) hN hv hd hcd).run pz sz σz hz (fun v G => v = .ref f ∧ G = hz) IZ ⟨_, w1, rfl, rfl⟩) fun u s1 got => ?_)
  obtain ⟨v, G, J, rv, ev, eG⟩ := got
  subst ev
  rw [eG] at J
  cases rv
  have un : Un (frs X.stack) [] H hz s.heap s1.heap := J.base
  have of1 := J.base.keep f _ here un0 apart (fun z => by cases z)
  refine PySem.W.callWith_F0 ⟨_, _, _, _, of1⟩ (wpAny_call ?_)
  obtain ⟨⟨oc, vs, t, hoc, hdc, hvc⟩, _, _⟩ := J.hok c _ w2
  have ran : codeAny (model X.prog X.w) (X.A.deeper (envOfC qg sg s.heap.objs.size g cdg)) (.call (.ref f) ⟨[], []⟩) (CR (L2.CX X.prog X.w) (envOfC qg sg s.heap.objs.size g cdg :: X.stack) X.prog X.w hz s1 Q E) s1 := by
    refine PySem.W.kla_callFunE room.depth of1 rfl L.co L.gen rfl ⟨c, oc, vs, t, rfl, hoc, hdc, hvc⟩ ?_
    rw [bind]
    refine wpAny_pure (wpAny_newFunctionEnv (fun y hy => (L.own y hy).2) (fun y hy => by cases hy) (fun h₁ ns but => ⟨J.nolimit.fresh _ but, ?_⟩) L.kind)
    show codeAny _ _ (.expr body (lamEnv X scope s1.heap.objs.size f c)) _ _
    have keep1 : ∀ b o, s1.heap.get? b = some o → h₁.get? b = some o := fun b o e => but.extBut b o (Nat.ne_of_lt (Heap.lt_size e)) (Heap.get?_push_of_some _ e)
    have J1 := lam_start2 (E := E) (f := f) (c' := c) (tk := s1.toks + ([] : List (Str × Value)).length) I L J.env0 room.hd un ns keep1
    have gu' : (X.A.deeper (envOfC qg sg s.heap.objs.size g cdg)).guards = some [] := by rw [← gu]; rfl
    refine PySem.W.kla_codeExpr (wpAny_mono ((says _ _ s1 hz gu' (room.deeper _)).run [] _ _ hz Q J1 w3) ?_ fun _ _ q => q)
    rintro v s' ⟨u', H', J', rv', q⟩
    exact ⟨u', H', J'.os, J'.bare, J'.base, J'.hok, rv', q⟩
  refine codeAny_mono ran fun r s' q => ?_
  rcases r with e | fl
  · exact passes_call tk hW pz σz hz s1 e s' J q
  · cases fl with
    | ret u => exact J.after q
    | _ => exact q.elim
end

/-! ### the def that tells -/
/-- what is told of what is raised: the first clause that names it -/
def wordX (K : PySem.W.Frag) : List (Value × Str) → VK → XK
  | [], _ => fun _ _ _ => False
  | (c, y) :: r, Q => fun cls d H' => ∃ b, PySem.W.exmOne K cls c = some b ∧ (b = true → Q (.str y) H') ∧ (b = false → wordX K r Q cls d H')
def TWord (K : PySem.W.Frag) (hs : List (Value × Str)) (told : Str) : (XK → Hp → VK → Prop) → Hp → VK → Prop := fun tl H Q => tl (wordX K hs Q) H fun _ H' => Q (.str told) H'
/-- the clauses as they stand -/
inductive Hdl (X : Cx) (sg : Scope) : List ExceptHandler → List (Value × Str) → Prop
  | nil : Hdl X sg [] []
  | cons {n y : Str} {C : Addr} {j : Nat} {p1 p2 p3 p4 : Pos} {hds : List ExceptHandler} {hs : List (Value × Str)} (h1 : sg.names.lookup n = some .globalImplicit) (h2 : X.mg n = some (.ref C)) (h3 : (n == ("__debug__" : Str)) = false) (r : Hdl X sg hds hs) :
      Hdl X sg (.ExceptHandler (some (.Name n p1)) none [.Return (some (.Constant (.str y) j p2)) p3] p4 :: hds) ((.ref C, y) :: hs)
section
variable {X : Cx}
def wdTs (hs : List (Value × Str)) : List (Value × (Addr → Value → Option Addr → TS)) := hs.map fun p => (p.1, fun _ _ _ => tRet (tC (.str p.2)))
theorem hdl_ok {Y : Cx} {sg : Scope} (hsc : Y.env.scope = sg) (hmg : Y.mg = X.mg) : ∀ {hds : List ExceptHandler} {hs : List (Value × Str)}, Hdl X sg hds hs → HdsOk Y hds (wdTs hs)
  | _, _, .nil => .nil
  | _, _, .cons h1 h2 h3 r => .cons ⟨by show Y.env.scope.names.lookup _ = _; rw [hsc]; exact h1, h3, .inl (by rw [hmg]; exact h2)⟩ (fun _ _ _ _ _ _ _ => pss_one (ps_ret pe_str)) (hdl_ok hsc hmg r)
theorem wordX_many {K : PySem.W.Frag} {D : Ends} {σ : L2.St} : ∀ {hs : List (Value × Str)} {cls : Value} {d : Option Addr} {H' : Hp}, wordX K hs D.rt cls d H' → wMany K (fun _ _ _ _ => False) D (wdTs hs) cls d σ H'
  | [], _, _, _, h => h
  | (c, y) :: r, _, _, _, ⟨b, e, h1, h2⟩ => ⟨b, e, fun hb a _ => h1 hb, fun hb => wordX_many (h2 hb)⟩
theorem word_gives {Ng : List Str} {x a q told : Str} {sg : Scope} {g : Addr} {cdg : Value} {hds : List ExceptHandler} {h0 : ExceptHandler} {hs : List (Value × Str)} {j : Nat} {p1 p2 p3 p4 p5 p6 : Pos} (hh : Hdl X sg (h0 :: hds) hs) (st : ∀ f : Addr, (L2.start Ng [V.ref f])[0]? = some (some (V.ref f))) :
    GivesTo X Ng x sg g cdg [.Try [.Expr (.Call (.Name a p1) [] [] p2) p3] (h0 :: hds) [] [] p4, .Return (some (.Constant (.str told) j p5)) p6] a q (TWord X.K hs told) := by
  intro f c s H Q tl act hc h
  have body : ∀ (W : WX) (pn : List (Addr × Obj)) (xe : Value → Shared → Prop), L2.Takes ((cxOf C8.CX0 X.prog X.w X.K X.mg X.base Ng x sg g cdg X.A X.stack s H C8.E0).nox.tr pn xe) W → PassesOwn (model X.prog X.w) (cxOf C8.CX0 X.prog X.w X.K X.mg X.base Ng x sg g cdg X.A X.stack s H C8.E0).nox.A (cxOf C8.CX0 X.prog X.w X.K X.mg X.base Ng x sg g cdg X.A X.stack s H C8.E0).nox.env xe →
      PSs ((cxOf C8.CX0 X.prog X.w X.K X.mg X.base Ng x sg g cdg X.A X.stack s H C8.E0).nox.tr pn xe) [.Expr (.Call (.Name a p1) [] [] p2) p3]
        (fun D σ H => ∃ Ech : XK, (∀ cls d σ' H', Ech cls d H' → W cls d σ' H') ∧ σ[0]? = some (some (.ref f)) ∧ H c = some (CodeO c q) ∧ tl Ech H fun _ H' => D.nx σ H') := by
    intro W pn xe tk _
    refine ⟨fun pins s' σ H' D I hq => ?_⟩
    obtain ⟨Ech, e1, e2, e3, e4⟩ := hq
    exact (pss_one (ps_expr (act W pn xe Ech p1 p2 tk e1) rfl)).run pins s' σ H' D I ⟨e2, e3, e4⟩
  have tr := ps_try_many (X := (cxOf C8.CX0 X.prog X.w X.K X.mg X.base Ng x sg g cdg X.A X.stack s H C8.E0).nox) (pos := p4) (Wout := fun _ _ _ _ => False) rfl rfl LamX.takes0 body (hdl_ok (X := X) (Y := (cxOf C8.CX0 X.prog X.w X.K X.mg X.base Ng x sg g cdg X.A X.stack s H C8.E0).nox) (sg := sg) rfl rfl hh)
  refine ⟨_, pss_cons tr (pss_one (ps_ret (pos := p6) pe_str)), ?_⟩
  refine ⟨wordX X.K hs Q, fun cls d σ' H' hx => ?_, st f, hc, h⟩
  exact wordX_many (D := { nx := _, rt := Q }) hx
end

/-! ### the whole -/
/-- what the context has of a def that tells: hs the clauses (class, word) -/
structure HasW (X : Cx) (n : Str) (hs : List (Value × Str)) (told : Str) : Prop where
  ex : ∃ (g : Addr) (oc : Value) (od an : Option Addr) (osl : Array (Option Value)) (pg : Arguments) (bg : List Stmt) (sg : Scope) (dV kV doc pm cdv ct : Value) (Ng : List Str) (a : Str), X.mg n = some (.ref g) ∧ PySem.W.keepIn X.K (.ref g) = true ∧
    X.K.lookup g = some ⟨oc, od, .func (PySem.W.fnOf n n pg bg sg dV kV doc pm an cdv ct), osl⟩ ∧ PySem.W.codeIn X.K cdv n = true ∧ L2.Binds X.K (PySem.W.fnOf n n pg bg sg dV kV doc pm an cdv ct) [a] [] ∧ FnScope Ng [a] sg ∧ Ng[0]? = some a ∧ Vis sg a ∧
    (a == ("__debug__" : Str)) = false ∧ (a == ("__classdict__" : Str)) = false ∧ ∀ q, GivesTo X Ng n sg g cdv bg a q (TWord X.K hs told)
section
variable {X : Cx} {T : List (Addr × Str)} {hs : List (Value × Str)} {told n : Str} {c P : Addr} {k : Nat} {params : Arguments} {body : Expr} {scope : Scope} {t : XK → TE} {p lpos pos : Pos}
theorem pe_word (hg : Gl X n) (hw : HasW X n hs told) (B : TabB X.base X.mg c P) (code : X.env.code = .ref c) (mem : (P, X.env.qual ++ "<lambda>") ∈ T) (uniq : ∀ p ∈ T, p.1 = P → p.2 = X.env.qual ++ "<lambda>") (room : Room (k + 2) X.A) (gu : X.A.guards = some [])
    (L : LamS X.env.scope scope) (nodef : defaultsOf params X.env = ([], [])) (bind : ∀ (q : Str) (cl : List (Str × Addr)) (pm cv ctv : Value), bindArgs (PySem.W.kla_fn "<lambda>" q params body scope cl pm cv ctv) ⟨[], []⟩ = pure [])
    (says : ∀ (A : Around) (outer : List Env) (s : Shared) (H : Hp) (E : XK) (f c' : Addr), A.guards = some [] → Room k (A.deeper (lamEnv X scope s.heap.objs.size f c')) → PE (lamCx X A outer s H E scope f c') body (t E))
    (hdb : (n == ("__debug__" : Str)) = false) :
    PE X (.Call (.Name n p) [.Lambda params body scope lpos] [] pos) (fun σ H Q => Tabs T H ∧ ∀ H1, ExtN H H1 → NoNew H H1 → Tabs T H1 → t (wordX X.K hs Q) σ H1 fun _ H' => Q (.str told) H') := by
  obtain ⟨g, oc, od, an, osl, pg, bg, sg, dV, kV, doc, pm, cdv, ct, Ng, a, hm, hk, lk, hcg, hb, Sg, hN, hv, hd, hcd, G⟩ := hw
  refine ⟨fun pins s σ H Q I h => wpAny_Call_Name_kw (ld_glob I hg hm ?_ hdb)⟩
  obtain ⟨tabs, h⟩ := h
  refine PySem.W.callWith_K (h₀ := X.base) I.ok.mod.kin hk ?_ (by rfl) (by rfl)
  refine Calls.spliced_cons (made I B code mem uniq tabs nodef (L.has I.ok) fun f c' pm' ctv H1 s' J ext nonew tabs1 here gone apart hco => Calls.spliced_nil ⟨J.kIn, ?_⟩)
  have ran : codeAny (model X.prog X.w) X.A (.call (.ref g) ⟨[.ref f], []⟩) (CR C8.CX0 X.stack X.prog X.w H1 s' Q C8.E0) s' := by
    refine run_ofS (N := Ng) (ps := [a]) (us := [.ref f]) (vs := [.ref f]) lk hcg Sg room J.env0 (hb s' [.ref f] J.kIn rfl) (.cons rfl .nil) rfl fun room' => ?_
    obtain ⟨t', e1, e2⟩ := G (X.env.qual ++ "<lambda>") f c' s' H1 Q (fun E H' Q' => t E σ H' Q') (fun W pn xe E p1 p2 tk hW => acted (i := 0) J L here gone apart (bind _ _ _ _ _) tk hW room' gu (fun A outer s H hgu hr => says A outer s H E f c' hgu hr) hN hv hd hcd) hco (h H1 ext nonew tabs1)
    exact ⟨t', e1.nox, e2⟩
  refine wpAny_call (codeAny_mono ran fun r s2 q => ?_)
  rcases r with e | fl
  · exact q.elim
  · cases fl with
    | ret u => exact J.after q
    | _ => exact q.elim
end

/-! ### its reading -/
def tabsOf : List Addr → List (List D) → List (Addr × Str)
  | a :: io, xs :: sto => match isMk xs with
    | some x => (a, lamQ x) :: tabsOf io sto
    | none => tabsOf io sto
  | _, _ => []
theorem tabs_mem : ∀ {io : List Addr} {sto : List (List D)} {p : Addr × Str}, p ∈ tabsOf io sto → ∃ (n : Nat) (xs : List D) (x : Str), io[n]? = some p.1 ∧ sto[n]? = some xs ∧ isMk xs = some x ∧ p.2 = lamQ x
  | [], _, _, h => by cases h
  | _ :: _, [], _, h => by cases h
  | a :: io, xs :: sto, p, h => by
    have rest : p ∈ tabsOf io sto → ∃ (n : Nat) (ys : List D) (x : Str), (a :: io)[n]? = some p.1 ∧ (xs :: sto)[n]? = some ys ∧ isMk ys = some x ∧ p.2 = lamQ x := fun h => by
      obtain ⟨n, ys, x, h1, h2, h3⟩ := tabs_mem h
      exact ⟨n + 1, ys, x, h1, h2, h3⟩
    unfold tabsOf at h
    split at h
    · rename_i x e
      rcases List.mem_cons.mp h with rfl | h
      · exact ⟨0, xs, x, rfl, rfl, e, rfl⟩
      · exact rest h
    · exact rest h
theorem mem_tabs : ∀ {io : List Addr} {sto : List (List D)} {n : Nat} {a : Addr} {xs : List D} {x : Str}, io[n]? = some a → sto[n]? = some xs → isMk xs = some x → (a, lamQ x) ∈ tabsOf io sto
  | [], _, _, _, _, _, h, _, _ => by simp at h
  | _ :: _, [], _, _, _, _, _, h, _ => by simp at h
  | a :: io, xs :: sto, 0, b, ys, x, h1, h2, h3 => by
    simp at h1 h2
    subst h1 h2
    unfold tabsOf
    rw [h3]
    exact List.mem_cons_self
  | a :: io, xs :: sto, n + 1, b, ys, x, h1, h2, h3 => by
    have := mem_tabs (io := io) (sto := sto) (n := n) (by simpa using h1) (by simpa using h2) h3
    unfold tabsOf
    split
    · exact List.mem_cons_of_mem _ this
    · exact this
section
variable {K : PySem.W.Frag} {mg : Str → Option Value} {w : Wd} {H H1 : Hp} {st : St} {σ : L2.St}
theorem Rel.tabs (r : Rel K mg w st σ H) : Tabs (tabsOf w.io st.sto) H := fun p hp => by
  obtain ⟨n, xs, x, h1, h2, h3, h4⟩ := tabs_mem hp
  obtain ⟨a, e1, _, e2⟩ := r.tab n xs x h2 h3
  rw [h1] at e1
  cases e1
  rw [h4]
  exact e2.2
/-- behind the making of a lambda -/
theorem Rel.lam (r : Rel K mg w st σ H) (e : ExtN H H1) (n : NoNew H H1) (t : Tabs (tabsOf w.io st.sto) H1) : Rel K mg w st σ H1 ∧ Go (Mu w st σ) w H (Mu w st σ) w H1 := by
  have kp : ∀ a o, H a = some o → ¬ Mu w st σ a → H1 a = some o := fun a o h m => e a o h fun ps z => by
    rw [z] at h
    exact m (.inl (r.stray a ps h))
  have th : ∀ a, H a ≠ none → H1 a ≠ none := fun a h => by
    cases q : H a with
    | none => exact absurd q h
    | some o =>
      by_cases z : ∃ ps, o = .tbl ps
      · obtain ⟨ps, rfl⟩ := z
        obtain ⟨m, xs, h1, h2⟩ := mem_io r (r.stray a ps q)
        cases k : isMk xs with
        | none =>
          obtain ⟨a', vs, e1, e2, _⟩ := r.cell m xs h2 k
          rw [h1] at e1
          cases e1
          rw [q] at e2
          cases e2
        | some x =>
          obtain ⟨ps', e1, _⟩ := t _ (mem_tabs h1 h2 k)
          rw [show H1 a = _ from e1]
          intro z; cases z
      · rw [e a o q fun ps z' => z ⟨ps, z'⟩]
        intro z; cases z
  have g : Go (Mu w st σ) w H (Mu w st σ) w H1 := ⟨kp, th, fun _ h => .inl h, fun _ h => .inl h, fun _ h _ => h, List.prefix_refl _⟩
  refine ⟨⟨r.len, fun i d h => ?_, fun i xs h => ?_, r.inj, fun m xs h q => ?_, fun m xs x h q => ?_, fun a ps h => ?_, r.slen, r.nd, fun a h => th a (r.alloc a h)⟩, g⟩
  · obtain ⟨v, e1, e2⟩ := r.val i d h
    exact ⟨v, e1, e2.ext r g.e⟩
  · obtain ⟨a, vs, e1, e2, e3, e4, e5⟩ := r.own i xs h
    exact ⟨a, vs, e1, e a _ e2 (fun _ z => nomatch z), e3, e4, e5.ext r g.e⟩
  · obtain ⟨a, vs, e1, e2, e3, e4⟩ := r.cell m xs h q
    exact ⟨a, vs, e1, e a _ e2 (fun _ z => nomatch z), e3, e4.ext r g.e⟩
  · obtain ⟨a, e1, e2, e3⟩ := r.tab m xs x h q
    exact ⟨a, e1, e2, e3.1, t _ (mem_tabs e1 h q)⟩
  · obtain ⟨qs, h'⟩ := n a ps h
    exact r.stray a qs h'
end
/-- a word for what may be raised: hs the clauses (class, word), cx each class with all that it is of -/
def wordOf (cx : List (Str × List Str)) : List (Str × Str) → Str → Option Str
  | [], _ => none
  | (c, y) :: r, n => match cx.lookup n with
    | none => none
    | some l => if c ∈ l then some y else wordOf cx r n
def wrdOf (cx : List (Str × List Str)) (hs : List (Str × Str)) (told : Str) : Option Xc → Option D
  | none => some (.str told)
  | some x => gd (x.args.isEmpty = true) ((wordOf cx hs x.cls).map .str)
/-- the clauses' classes -/
inductive ClsAt (K : PySem.W.Frag) (mg : Str → Option Value) (cx : List (Str × List Str)) : List (Str × Str) → List (Value × Str) → Prop
  | nil : ClsAt K mg cx [] []
  | cons {n y : Str} {c : Value} {hs : List (Str × Str)} {vs : List (Value × Str)} (h : ∀ m l cls, cx.lookup m = some l → mg m = some (.ref cls) → PySem.W.exmOne K (.ref cls) c = some (decide (n ∈ l))) (r : ClsAt K mg cx hs vs) : ClsAt K mg cx ((n, y) :: hs) ((c, y) :: vs)
theorem ClsAt.word {K : PySem.W.Frag} {mg : Str → Option Value} {cx : List (Str × List Str)} {cls : Addr} {m y : Str} {Q : VK} {d : Option Addr} {H' : Hp} (hm : mg m = some (.ref cls)) (q : Q (.str y) H') :
    ∀ {hs : List (Str × Str)} {vs : List (Value × Str)}, ClsAt K mg cx hs vs → wordOf cx hs m = some y → wordX K vs Q (.ref cls) d H'
  | _, _, .nil, h => by cases h
  | (n, z) :: hs, (c, _) :: vs, .cons h r, e => by
    unfold wordOf at e
    cases k : cx.lookup m with
    | none => rw [k] at e; cases e
    | some l =>
      rw [k] at e
      refine ⟨_, h m l cls k hm, fun hb => ?_, fun hb => ?_⟩
      · have e : (if n ∈ l then some z else wordOf cx hs m) = some y := e
        rw [if_pos (of_decide_eq_true hb)] at e
        cases e
        exact q
      · have e : (if n ∈ l then some z else wordOf cx hs m) = some y := e
        rw [if_neg (of_decide_eq_false hb)] at e
        exact ClsAt.word hm q r e
section
variable {X : Cx} {Z : WX} {C : Cfg} {x : E} {cx : List (Str × List Str)} {hs : List (Str × Str)} {vs : List (Value × Str)} {told n d : Str} {c P : Addr} {k j : Nat} {params : Arguments} {body : Expr} {scope : Scope} {p lpos pos : Pos}
theorem se_lam (hg : Gl X n) (hw : HasW X n vs told) (hc : ClsAt X.K X.mg cx hs vs) (hC : C.wrd n = wrdOf cx hs told) (B : TabB X.base X.mg c P) (code : X.env.code = .ref c) (tk : PySem.W.tabIn X.K d = some (c, P)) (hq : X.env.qual = lq d) (room : Room (k + 2) X.A) (gu : X.A.guards = some [])
    (L : LamS X.env.scope scope) (nodef : defaultsOf params X.env = ([], [])) (bind : ∀ (q : Str) (cl : List (Str × Addr)) (pm cv ctv : Value), bindArgs (PySem.W.kla_fn "<lambda>" q params body scope cl pm cv ctv) ⟨[], []⟩ = pure [])
    (says : ∀ (A : Around) (outer : List Env) (s : Shared) (H : Hp) (E : XK) (f c' : Addr), A.guards = some [] → Room k (A.deeper (lamEnv X scope s.heap.objs.size f c')) → PE (lamCx X A outer s H E scope f c') body (rdE (lamCx X A outer s H E scope f c') (wz E) C x))
    (hdb : (n == ("__debug__" : Str)) = false) : PE X (.Call (.Name n p) [.Lambda params body scope lpos] [] pos) (rdE X Z C (.lam n d j x)) := by
  refine ⟨fun pins s σ H Q I h => ?_⟩
  obtain ⟨w, st, rel, p⟩ := h
  have p : Post X.K X.mg Z (RV_ X.K X.mg) σ H w st (gd ((st.sto[j]?).bind isMk = some d) (match evE C x st with
    | none => none
    | some (.ok _, s) => lift ((C.wrd n none).map .val) s
    | some (.error y, s) => lift ((C.wrd n (some y)).map .val) s)) Q := p
  by_cases hj : (st.sto[j]?).bind isMk = some d
  · rw [show ∀ m : Rs Rv, gd ((st.sto[j]?).bind isMk = some d) m = m from fun m => if_pos hj] at p
    obtain ⟨xs, e1, e2⟩ := Option.bind_eq_some_iff.mp hj
    obtain ⟨a, f1, f2, ⟨c', f3⟩, f4⟩ := rel.tab j xs d e1 e2
    rw [tk] at f3
    cases f3
    have lq' : X.env.qual ++ "<lambda>" = lamQ d := by rw [hq]; rfl
    refine (pe_word (T := tabsOf w.io st.sto) (t := fun E σ H Q => ∃ w st, Rel X.K X.mg w st σ H ∧ Post X.K X.mg (wz E) (RV_ X.K X.mg) σ H w st (evE C x st) Q) hg hw B code ?_ ?_ room gu L nodef bind says hdb).run pins s σ H Q I ⟨rel.tabs, fun H1 ext nonew tabs1 => ?_⟩
    · rw [lq']
      exact mem_tabs f1 e1 e2
    · intro q hq1 hq2
      obtain ⟨m, ys, y, g1, g2, g3, g4⟩ := tabs_mem hq1
      rw [hq2] at g1
      have : m = j := nd_ix rel.nd g1 f1
      subst this
      rw [e1] at g2
      cases g2
      rw [e2] at g3
      cases g3
      rw [g4, lq']
    · obtain ⟨rel1, g1⟩ := rel.lam ext nonew tabs1
      refine ⟨w, st, rel1, ?_⟩
      generalize evE C x st = me at p ⊢
      rcases me with _ | ⟨y | r, s1⟩
      · exact p
      · have p : Post X.K X.mg Z (RV_ X.K X.mg) σ H w st (lift ((C.wrd n (some y)).map .val) s1) Q := p
        intro cls dd w' H' g2 rel2 xo
        obtain ⟨args, cl, hm, rfl⟩ := xo
        rw [hC] at p
        have e : wrdOf cx hs told (some y) = (wordOf cx hs y.cls).map .str := if_pos (by rw [args]; rfl)
        rw [e] at p
        cases q : wordOf cx hs y.cls with
        | none => rw [q] at p; exact p.elim
        | some z =>
          rw [q] at p
          exact hc.word hm (p (.str z) w' H' (g1.trans g2 rel.alloc) rel2 rfl) q
      · have p : Post X.K X.mg Z (RV_ X.K X.mg) σ H w st (lift ((C.wrd n none).map .val) s1) Q := p
        rw [hC] at p
        intro v w' H' g2 rel2 _
        exact p (.str told) w' H' (g1.trans g2 rel.alloc) rel2 rfl
  · rw [show ∀ m : Rs Rv, gd ((st.sto[j]?).bind isMk = some d) m = none from fun m => if_neg hj] at p
    exact p.elim
end
end Pi

set_option Elab.async false
set_option linter.all false
set_option maxRecDepth 100000
set_option maxHeartbeats 1000000
/-! PiChk: a check that an expression of the text is read by one of ours. -/
namespace Pi
open PySem L2
/-- the names that a module gives -/
structure Gb where
  fns : List Str
  bl : List Str
  cs : List Str
  /-- defs that tell: the clauses (class, word), the word of no error -/
  ws : List (Str × List (Str × Str) × Str) := []
  /-- the classes of what is raised, with all that each is of -/
  cx : List (Str × List Str) := []
/-- a block's names -/
structure Ct where
  sc : Scope
  N : List Str
  all : Bool
  /-- the def whose code's table stands -/
  lam : Option Str := none
structure Fits (g : Gb) (C : Cfg) (k : Nat) (c : Ct) (X : Cx) (Z : WX) : Prop where
  N : X.N = c.N
  nd : X.N.Nodup
  sc : X.env.scope = c.sc
  calm : X.calm = true
  room : Room k X.A
  gu : X.A.guards = some []
  fn : c.all = true → ∀ n, X.fn n = true
  tk : Takes X Z
  fns : ∀ n ∈ g.fns, Has X k n (C.fns n)
  bl : ∀ n ∈ g.bl, X.mg n = none
  cst : ∀ n d, C.cst n = some d → ∃ v u, X.mg n = some u ∧ RelV v u ∧ ∀ w H, RD X.K X.mg w H d v
  wrd : ∀ d, c.lam = some d → ∀ n hs told, (n, hs, told) ∈ g.ws → ∃ vs, HasW X n vs told ∧ ClsAt X.K X.mg g.cx hs vs ∧ C.wrd n = wrdOf g.cx hs told
  exc : ∀ n ∈ g.cx.map (·.1), ExcC X.K X.mg n
  dfs : ∀ f, C.dfs f = true → Has X k f (C.fns f)
  lam : ∀ d, c.lam = some d → Room (k + 2) X.A ∧ X.env.qual = lq d ∧ ∃ cc P, X.env.code = .ref cc ∧ LamX.TabB X.base X.mg cc P ∧ PySem.W.tabIn X.K d = some (cc, P)
theorem Fits.cm {g : Gb} {C : Cfg} {k : Nat} {c : Ct} {X : Cx} {Z : WX} (F : Fits g C k c X Z) : Calm X := ⟨F.calm, by have := F.room.un; omega, F.gu⟩
theorem takes0 {X : Cx} : Takes X Z0 := fun _ _ ⟨_, _, _, _, _, _, _, _, _, _, _, _, _, _, _, _, w⟩ => w.elim
theorem Fits.blk {g : Gb} {C : Cfg} {k : Nat} {c : Ct} {X : Cx} {Z : WX} (F : Fits g C k c X Z) (scope : Scope) (s : Shared) (H : Hp) (Ca : Addr) (cl : List (Str × Addr)) (fp : List Addr) :
    Fits g C k ⟨relS scope c.sc, c.N, false, c.lam⟩ (X.blk s H scope (compEnvC scope cl Ca X.env) fp) Z0 where
  N := F.N
  nd := F.nd
  sc := by rw [← F.sc]; rfl
  calm := F.calm
  room := F.room
  gu := F.gu
  fn := fun h => nomatch h
  tk := takes0
  fns := fun n h => ⟨(F.fns n h).ex⟩
  bl := F.bl
  cst := F.cst
  wrd := fun d e n hs told h => let ⟨vs, h1, h2, h3⟩ := F.wrd d e n hs told h; ⟨vs, ⟨h1.ex⟩, h2, h3⟩
  exc := F.exc
  dfs := fun f h => ⟨(F.dfs f h).ex⟩
  lam := F.lam
/-- within a lambda -/
theorem Fits.lamb {g : Gb} {C : Cfg} {k : Nat} {c : Ct} {X : Cx} {Z : WX} (F : Fits g C k c X Z) {A : Around} {outer : List Env} {s : Shared} {H : Hp} {E : XK} {scope : Scope} {f c' : Addr} (gu : A.guards = some []) (room : Room k (A.deeper (LamX.lamEnv X scope s.heap.objs.size f c'))) :
    Fits g C k ⟨scope, c.N, false, none⟩ (LamX.lamCx X A outer s H E scope f c') (wz E) where
  N := F.N
  nd := F.nd
  sc := rfl
  calm := rfl
  room := room
  gu := by rw [← gu]; rfl
  fn := fun h => nomatch h
  tk := takes_of rfl rfl rfl rfl
  fns := fun n h => ⟨(F.fns n h).ex⟩
  bl := F.bl
  cst := F.cst
  wrd := fun d e => nomatch e
  exc := F.exc
  dfs := fun f h => ⟨(F.dfs f h).ex⟩
  lam := fun d h => nomatch h

/-! ### the checks -/
def nst : Expr → Bool
  | .Starred .. => false
  | _ => true
def nss (es : List Expr) : Bool := es.all nst
def lcl (c : Ct) (i : Nat) (n : Str) : Bool := decide (c.N[i]? = some n) && (match c.sc.names.lookup n with
  | some .local => true | some .cell => true | some .free => true | _ => false) && !(n == ("__debug__" : Str)) && !(n == ("__classdict__" : Str))
def glo (c : Ct) (n : Str) : Bool := decide (c.sc.names.lookup n = some .globalImplicit) && !(n == ("__debug__" : Str))
def tgt (c : Ct) (i : Nat) (n : Str) : Bool := decide (c.N[i]? = some n) && (match c.sc.names.lookup n with
  | some .local => true | some .cell => c.all | _ => false)
def bin (g : Gb) (c : Ct) (n : Str) : Bool := glo c n && decide (n ∈ g.bl)
def dsh : Expr → Bool
  | .BoolOp .. => false | .UnaryOp .Not _ _ => false | .IfExp .. => false | .Compare .. => false
  | _ => true
def nsl : Expr → Bool
  | .Slice .. => false
  | _ => true
def nse : Expr → Bool
  | .Set .. => false
  | _ => true
def ncl : Expr → Bool
  | .Call .. => false
  | _ => true
/-- the rest of a row of and, or -/
def one (o : BoolOp) (es : List Expr) (p : Pos) : Expr := match es with
  | [e] => e
  | es => .BoolOp o es p
def ownOf (c : Ct) (vs : List Nat) : List (Str × Nat) := vs.map fun i => ((c.N[i]?).getD "", i)
def tyS : Ty → Str
  | .int => "int" | .bool => "bool" | .str => "str" | .tuple => "tuple" | .list => "list" | .dict => "dict"
def meS : Me → Str
  | .append => "append" | .pop => "pop"
def noArg : Arguments → Bool
  | ⟨[], [], none, [], [], none, []⟩ => true
  | _ => false
structure Og where
  e : Expr → Bool
  l : List Expr → Bool
def okG (c : Ct) : T → Og
  | .nm i => ⟨fun a => match a with | .Name n _ => tgt c i n | _ => false, fun _ => false⟩
  | .nil => ⟨fun a => match a with | .Tuple [] _ _ => true | _ => false, fun es => es.isEmpty⟩
  | .cons t r => ⟨fun a => match a with | .Tuple (a :: es) _ _ => nst a && nss es && (okG c t).e a && (okG c r).l es && r.isL && decide (r.len = es.length) | _ => false,
      fun es => match es with | a :: es => nst a && (okG c t).e a && (okG c r).l es | [] => false⟩
structure Ok where
  e : Ct → Bool → Expr → Bool := fun _ _ _ => false
  l : Ct → List Expr → Bool := fun _ _ => false
  o : Ct → Option Expr → Bool := fun _ _ => false
  i : Ct → Expr → Expr → Bool := fun _ _ _ => false
  c : Ct → List Expr → Bool := fun _ _ => false
def okC (x : Ok) (isT : Bool) (c : Ct) : List Expr → Bool
  | [] => isT
  | [a] => x.e c true a
  | _ => false
def isTrueE : E → Bool
  | .cB true => true
  | _ => false
def isNil : E → Bool
  | .nil => true
  | _ => false
def isOne : E → Bool
  | .cons _ .nil => true
  | _ => false
def msS : Ms → Str
  | .join => "join"
def ok (g : Gb) : E → Ok
  | .no => { e := fun _ _ _ => true, o := fun _ a => a.isNone }
  | .nil => { l := fun _ es => es.isEmpty }
  | .cons a r => { l := fun c es => match es with | e :: es => nst e && (ok g a).e c false e && (ok g r).l c es | [] => false }
  | .yes a => { o := fun c e => match e with | some e => (ok g a).e c false e | none => false }
  | .cN => { e := fun _ t a => match a with | .Constant .none _ _ => !t | _ => false }
  | .cB b => { e := fun _ t a => match a with | .Constant (.bool b') _ _ => decide (b = b') | _ => false }
  | .cI i => { e := fun _ t a => match a with | .Constant (.int j) _ _ => !t && decide (i = j) | _ => false }
  | .cS x => { e := fun _ t a => match a with | .Constant (.str y) _ _ => !t && decide (x = y) | _ => false }
  | .loc i => { e := fun c _ a => match a with | .Name n _ => lcl c i n | _ => false }
  | .glb x => { e := fun c _ a => match a with | .Name n _ => decide (x = n) && glo c n | _ => false }
  | .bin o x y => { e := fun c t a => match a with | .BinOp l o' r _ => !t && decide (o = o') && (ok g x).e c false l && (ok g y).e c false r | _ => false }
  | .neg x => { e := fun c t a => match a with | .UnaryOp .USub l _ => !t && (ok g x).e c false l | _ => false }
  | .and x y => { e := fun c t a => match a with | .BoolOp .And (l :: m :: rest) p => !t && (ok g x).e c false l && (ok g y).e c false (one .And (m :: rest) p) | _ => false }
  | .or x y => { e := fun c t a => match a with | .BoolOp .Or (l :: m :: rest) p => !t && (ok g x).e c false l && (ok g y).e c false (one .Or (m :: rest) p) | _ => false }
  | .not x => { e := fun c t a => match a with | .UnaryOp .Not l _ => !t && (ok g x).e c false l | _ => false }
  | .tand x y => { e := fun c t a => match a with | .BoolOp .And (l :: m :: rest) p => t && (ok g x).e c true l && (ok g y).e c true (one .And (m :: rest) p) | _ => false }
  | .tor x y => { e := fun c t a => match a with | .BoolOp .Or (l :: m :: rest) p => t && (ok g x).e c true l && (ok g y).e c true (one .Or (m :: rest) p) | _ => false }
  | .tnot x => { e := fun c t a => match a with | .UnaryOp .Not l _ => t && (ok g x).e c true l | _ => false }
  | .tru x => { e := fun c t a => t && dsh a && (ok g x).e c false a }
  | .cmp o x y => { e := fun c _ a => match a with | .Compare l [o'] [r] _ => decide (o = o') && !behindInMarks o r && (ok g x).e c false l && (ok g y).e c false r | _ => false }
  | .cmp2 o1 o2 x y z => { e := fun c _ a => match a with | .Compare l [p1, p2] [m, r] _ => decide (o1 = p1) && decide (o2 = p2) && !lastMarks [o1, o2] [m, r] && (ok g x).e c false l && (ok g y).e c false m && (ok g z).e c false r | _ => false }
  | .isN x => { e := fun c _ a => match a with | .Compare l [.Is] [.Constant .none _ _] _ => (ok g x).e c false l | _ => false }
  | .notN x => { e := fun c _ a => match a with | .Compare l [.IsNot] [.Constant .none _ _] _ => (ok g x).e c false l | _ => false }
  | .isi x t => { e := fun c _ a => match a with | .Call (.Name f _) [l, .Name n _] [] _ => decide (f = "isinstance") && bin g c "isinstance" && decide (n = tyS t) && bin g c (tyS t) && nst l && (ok g x).e c false l | _ => false }
  | .ite z x y => { e := fun c t a => match a with | .IfExp q l r _ => !t && (ok g z).e c true q && (ok g x).e c false l && (ok g y).e c false r | _ => false }
  | .tup x => { e := fun c t a => match a with | .Tuple es _ _ => !t && (ok g x).l c es | _ => false }
  | .lst x => { e := fun c t a => match a with | .List es _ => !t && (ok g x).l c es | _ => false }
  | .idx x y => { e := fun c _ a => match a with | .Subscript l r _ => nsl r && (ok g x).e c false l && (ok g y).e c false r | _ => false }
  | .slc x y z => { e := fun c t a => match a with | .Subscript l (.Slice lo hi none _) _ => !t && (ok g x).e c false l && (ok g y).o c lo && (ok g z).o c hi | _ => false }
  | .comp vs e t src cnd => { e := fun c m a => match a with
      | .ListComp elt [⟨tg, iter, ifs, 0⟩] scope _ => !m && blkC c.N c.sc scope (ownOf c vs) && (t.sl.all fun i => decide (i ∈ vs)) && nse iter && (ok g src).i c tg iter && (okG ⟨relS scope c.sc, c.N, false, c.lam⟩ t).e tg &&
          okC (ok g cnd) (isTrueE cnd) ⟨relS scope c.sc, c.N, false, c.lam⟩ ifs && (ok g e).e ⟨relS scope c.sc, c.N, false, c.lam⟩ false elt
      | _ => false }
  | .comp2 vs vs1 e t src cnd t1 src1 cnd1 => { e := fun c m a => match a with
      | .ListComp elt [⟨tg, iter, ifs, 0⟩, ⟨tg1, iter1, ifs1, 0⟩] scope _ => !m && blkC c.N c.sc scope (ownOf c vs) && (t.sl.all fun i => decide (i ∈ vs)) && (vs1.all fun i => decide (i ∈ vs)) && (t1.sl.all fun i => decide (i ∈ vs1)) && nse iter && nse iter1 &&
          (ok g src).i c tg iter && (okG ⟨relS scope c.sc, c.N, false, c.lam⟩ t).e tg && okC (ok g cnd) (isTrueE cnd) ⟨relS scope c.sc, c.N, false, c.lam⟩ ifs && (ok g e).e ⟨relS scope c.sc, c.N, false, c.lam⟩ false elt &&
          (ok g src1).i ⟨relS scope c.sc, c.N, false, c.lam⟩ tg1 iter1 && (okG ⟨relS scope c.sc, c.N, false, c.lam⟩ t1).e tg1 && okC (ok g cnd1) (isTrueE cnd1) ⟨relS scope c.sc, c.N, false, c.lam⟩ ifs1
      | _ => false }
  | .itr x => { i := fun c _ a => (ok g x).e c false a }
  | .rng1 x => { i := fun c _ a => match a with | .Call (.Name n _) [l] [] _ => decide (n = "range") && bin g c "range" && nst l && (ok g x).e c false l | _ => false }
  | .rng2 x y => { i := fun c _ a => match a with | .Call (.Name n _) [l, r] [] _ => decide (n = "range") && bin g c "range" && nst l && nst r && (ok g x).e c false l && (ok g y).e c false r | _ => false }
  | .zip2 x y => { i := fun c tg a => match tg, a with | .Tuple _ _ _, .Call (.Name n _) [l, r] [] _ => decide (n = "zip") && bin g c "zip" && nst l && nst r && (ok g x).e c false l && (ok g y).e c false r | _, _ => false }
  | .enm x => { i := fun c tg a => match tg, a with | .Tuple _ _ _, .Call (.Name n _) [l] [] _ => decide (n = "enumerate") && bin g c "enumerate" && nst l && (ok g x).e c false l | _, _ => false }
  | .revd x => { i := fun c _ a => match a with | .Call (.Name n _) [l] [] _ => decide (n = "reversed") && bin g c "reversed" && nst l && (ok g x).e c false l | _ => false }
  | .call f x => { e := fun c _ a => match a with | .Call (.Name n _) es [] _ => decide (n = f) && glo c f && decide (f ∈ g.fns) && nss es && (ok g x).l c es && (!es.isEmpty || isNil x) | _ => false }
  | .blt f x => { e := fun c _ a => match a with | .Call (.Name n _) (e :: es) [] _ => decide (n = biName f) && bin g c (biName f) && nss (e :: es) && (ok g x).l c (e :: es) | _ => false }
  | .len x => { e := fun c _ a => match a with | .Call (.Name n _) [l] [] _ => decide (n = "len") && bin g c "len" && nst l && (ok g x).e c false l | _ => false }
  | .rlst1 x => { e := fun c _ a => match a with | .Call (.Name n _) [.Call (.Name m _) [l] [] _] [] _ => decide (n = "list") && bin g c "list" && decide (m = "range") && bin g c "range" && nst l && (ok g x).e c false l | _ => false }
  | .rlst2 x y => { e := fun c _ a => match a with | .Call (.Name n _) [.Call (.Name m _) [l, r] [] _] [] _ => decide (n = "list") && bin g c "list" && decide (m = "range") && bin g c "range" && nst l && nst r && (ok g x).e c false l && (ok g y).e c false r | _ => false }
  | .mth m x y => { e := fun c _ a => match a with | .Call (.Attribute o nm ap) es [] p => decide (nm = meS m) && (ap.endLine == p.line) && ncl o && nss es && decide (es.length < 30) && (ok g x).e c false o && (ok g y).l c es && (!es.isEmpty || isNil y) | _ => false }
  | .sth m x y => { e := fun c _ a => match a with | .Call (.Attribute o nm ap) [l] [] p => isOne y && decide (nm = msS m) && (ap.endLine == p.line) && ncl o && nst l && (ok g x).e c false o && (ok g y).l c [l] | _ => false }
  | .fmt x => { e := fun c t a => match a with | .FormattedValue l (-1) none _ => !t && (ok g x).e c false l | _ => false }
  | .fstr x => { e := fun c t a => match a with | .JoinedStr (e1 :: e2 :: es) _ => !t && (ok g x).l c (e1 :: e2 :: es) | _ => false }
  | .cell x => { e := fun c t a => !t && (ok g x).e c false a }
  | .lset x => { e := fun c _ a => match a with | .Call (.Name n _) [.Call (.Name m _) [l] [] _] [] _ => decide (n = "len") && bin g c "len" && decide (m = "set") && bin g c "set" && nst l && (ok g x).e c false l | _ => false }
  | .callv i x => { e := fun c _ a => match a with | .Call (.Name n _) (e :: es) [] _ => lcl c i n && nss (e :: es) && (ok g x).l c (e :: es) | _ => false }
  | .lam w d _ x => { e := fun c _ a => match a with | .Call (.Name n _) [.Lambda params body scope _] [] _ => decide (n = w) && glo c w && decide (w ∈ g.ws.map (·.1)) && decide (c.lam = some d) && LamX.lamSB c.sc scope && noArg params && (ok g x).e ⟨scope, c.N, false, none⟩ false body | _ => false }
  | _ => {}
end Pi

set_option Elab.async false
set_option linter.all false
set_option maxRecDepth 100000
set_option maxHeartbeats 1000000
/-! PiSnd: what is checked is read so. -/
namespace Pi
open PySem L2
section
variable {g : Gb} {C : Cfg} {k : Nat} {c : Ct} {X : Cx} {Z : WX} {a b : Expr} {es : List Expr} {x y z : E} {pos : Pos} {t : Bool}
theorem nst_hs (h : nst a = true) : starEach (a :: es) X.env = (false, eval a X.env) :: starEach es X.env := by
  cases a <;> first | rfl | cases h
theorem nss_any : ∀ {es : List Expr}, nss es = true → (starEach es X.env).any (·.1) = false
  | [], _ => rfl
  | a :: es, h => by
    unfold nss at h
    rw [List.all_cons, Bool.and_eq_true] at h
    rw [nst_hs h.1, List.any_cons, nss_any h.2]; rfl
theorem back_any {l : List (Bool × Sem Value)} : (backTo pos l).any (·.1) = l.any (·.1) := by
  unfold backTo
  rw [List.any_map]
  rfl
theorem nss_back (h : nss es = true) : (backTo pos (starEach es X.env)).any (·.1) = false := by rw [back_any]; exact nss_any h
theorem nst_as (h : nst a = true) : (assignEach (a :: es) X.env) = (false, assign a X.env) :: assignEach es X.env := by
  cases a <;> first | rfl | cases h
theorem nss_as : ∀ {es : List Expr}, nss es = true → (assignEach es X.env).length = es.length ∧ (assignEach es X.env).findIdx? (·.1) = none
  | [], _ => ⟨rfl, rfl⟩
  | a :: es, h => by
    unfold nss at h
    rw [List.all_cons, Bool.and_eq_true] at h
    obtain ⟨i1, i2⟩ := nss_as h.2
    rw [nst_as h.1]
    refine ⟨by rw [List.length_cons, List.length_cons, i1], ?_⟩
    rw [List.findIdx?_cons, i2]; rfl
theorem lcl_pe {i : Nat} {n : Str} (F : Fits g C k c X Z) (h : lcl c i n = true) : PE X (.Name n pos) (tVar i) := by
  unfold lcl at h
  simp only [Bool.and_eq_true, decide_eq_true_eq, Bool.not_eq_true'] at h
  obtain ⟨⟨⟨h1, h2⟩, h3⟩, h4⟩ := h
  refine pe_var (by rw [F.N]; exact h1) ?_ h3 h4
  unfold Vis
  rw [F.sc]
  split at h2 <;> rename_i e <;> first | exact .inl e | exact .inr (.inl e) | exact .inr (.inr e) | cases h2
theorem glo_gl {n : Str} (F : Fits g C k c X Z) (h : glo c n = true) : Gl X n ∧ (n == ("__debug__" : Str)) = false := by
  unfold glo at h
  simp only [Bool.and_eq_true, decide_eq_true_eq, Bool.not_eq_true'] at h
  refine ⟨?_, h.2⟩
  unfold Gl Env.kindOf
  rw [F.sc]; exact h.1
theorem bin_gl {n : Str} (F : Fits g C k c X Z) (h : bin g c n = true) : Gl X n ∧ X.mg n = none := by
  unfold bin at h
  simp only [Bool.and_eq_true, decide_eq_true_eq] at h
  exact ⟨(glo_gl F h.1).1, F.bl n h.2⟩
theorem tgt_ok {i : Nat} {n : Str} (F : Fits g C k c X Z) (h : tgt c i n = true) : X.N[i]? = some n ∧ L2.Loc X.env.scope n ∧ (X.fn n = true ∨ X.env.scope.names.lookup n = some .local) := by
  unfold tgt at h
  simp only [Bool.and_eq_true, decide_eq_true_eq] at h
  refine ⟨by rw [F.N]; exact h.1, ?_⟩
  unfold L2.Loc
  rw [F.sc]
  have h2 := h.2
  split at h2
  · rename_i e; exact ⟨.inl e, .inr e⟩
  · rename_i e; exact ⟨.inr e, .inl (F.fn h2 n)⟩
  · cases h2
theorem dsh_sh (h : dsh a = true) (whole : Sem Value) : isTrue a X.env whole = (do let v ← whole; standAt a.pos; holding [v] (truthy v)) := by
  cases a <;> first | rfl | (cases h; done) | skip
  rename_i op _ _
  cases op <;> first | rfl | cases h
theorem nsl_ix (h : nsl a = true) : PlainIx a := by
  cases a <;> first | exact fun _ _ => rfl | cases h
theorem nse_fs (h : nse a = true) (env : Env) (u : Value) : foldedSetIterable a env u = pure u := by
  cases a <;> first | rfl | cases h
theorem ncl_ab {n : Str} {env : Env} {u : Sem Value} (h : ncl a = true) : attributeBase a n env u = u := by
  cases a <;> first | rfl | cases h

/-! ### targets -/
theorem okG_sound (F : Fits g C k c X Z) : ∀ t : T, (∀ a, (okG c t).e a = true → PG X a (rdG X t)) ∧ (∀ es, (okG c t).l es = true → PGs X es (rdGs X t))
  | .nm i => by
    refine ⟨fun a h => ?_, fun es h => nomatch h⟩
    have h : (match (generalizing := false) a with | .Name n _ => tgt c i n | _ => false) = true := h
    split at h
    · obtain ⟨h1, h2, h3⟩ := tgt_ok F h
      exact sg_nm F.nd h1 h2 h3
    · cases h
  | .nil => by
    refine ⟨fun a h => ?_, fun es h => ?_⟩
    · have h : (match (generalizing := false) a with | .Tuple [] _ _ => true | _ => false) = true := h
      split at h
      · exact sg_tup F.calm rfl rfl sgs_nil rfl rfl
      · cases h
    · cases es with
      | nil => exact sgs_nil
      | cons => cases h
  | .cons t r => by
    obtain ⟨t1, _⟩ := okG_sound F t
    obtain ⟨_, r2⟩ := okG_sound F r
    refine ⟨fun a h => ?_, fun es h => ?_⟩
    · have h : (match (generalizing := false) a with | .Tuple (a :: es) _ _ => nst a && nss es && (okG c t).e a && (okG c r).l es && r.isL && decide (r.len = es.length) | _ => false) = true := h
      split at h
      · simp only [Bool.and_eq_true, decide_eq_true_eq] at h
        obtain ⟨⟨⟨⟨⟨h1, h2⟩, h3⟩, h4⟩, h5⟩, h6⟩ := h
        rename_i a0 es0 _ _
        have hh : nss (a0 :: es0) = true := by unfold nss; rw [List.all_cons, h1]; exact h2
        obtain ⟨l1, l2⟩ := nss_as (X := X) hh
        exact sg_tup F.calm h5 (by rw [List.length_cons, ← h6]; rfl) (sgs_cons (t1 _ h3) (r2 _ h4) (by rw [nst_as h1]; rfl)) l1 l2
      · cases h
    · have h : (match (generalizing := false) es with | a :: es => nst a && (okG c t).e a && (okG c r).l es | [] => false) = true := h
      split at h
      · simp only [Bool.and_eq_true] at h
        obtain ⟨⟨h1, h2⟩, h3⟩ := h
        exact sgs_cons (t1 _ h2) (r2 _ h3) (by rw [nst_as h1]; rfl)
      · cases h

/-! ### expressions -/
structure Val (X : Cx) (Z : WX) (C : Cfg) (x : E) (t : Bool) (a : Expr) : Prop where
  v : t = false → PE X a (rdE X Z C x)
  ts : t = true → PT X a (rdB X Z C x)
  w : t = true → ∀ o es p, a = .BoolOp o es p → PW X a (rdB X Z C x)
structure Lst (X : Cx) (Z : WX) (C : Cfg) (x : E) (es : List Expr) : Prop where
  l : PA X es (rdL X Z C x)
  r : PA X es (rdR X Z C x)
  j : ∃ ts, SJ X Z C es x ts
structure Snd (g : Gb) (C : Cfg) (k : Nat) (x : E) : Prop where
  e : ∀ c X Z t a, Fits g C k c X Z → (ok g x).e c t a = true → Val X Z C x t a
  l : ∀ c X Z es, Fits g C k c X Z → (ok g x).l c es = true → Lst X Z C x es
  o : ∀ c X Z a, Fits g C k c X Z → (ok g x).o c a = true → PO X a (rdO X Z C x)
  i : ∀ c X Z tg a, Fits g C k c X Z → (ok g x).i c tg a = true → PI X tg a (rdI X Z C x)
theorem Val.of (hd : dsh a = true) (h : PE X a (rdE X Z C x)) : Val X Z C x t a := ⟨fun _ => h, fun _ => se_tval h (dsh_sh hd), fun _ o es p e => by rw [e] at hd; cases hd⟩
theorem Val.no (ht : t = false) (h : PE X a (rdE X Z C x)) : Val X Z C x t a := ⟨fun _ => h, (fun e => by rw [ht] at e; cases e), (fun e => by rw [ht] at e; cases e)⟩
theorem Val.both (h : PE X a (rdE X Z C x) ∧ PT X a (rdB X Z C x)) (n : ∀ o es p, a ≠ .BoolOp o es p) : Val X Z C x t a := ⟨fun _ => h.1, fun _ => h.2, fun _ o es p e => absurd e (n o es p)⟩
theorem pe_one {o : BoolOp} {u : TE} (h : PE X a u) : PE X (.BoolOp o [a] pos) u := ⟨fun pins s σ H Q I q => h.run pins s σ H Q I q⟩
theorem Snd.pe (h : Snd g C k x) (F : Fits g C k c X Z) (q : (ok g x).e c false a = true) : PE X a (rdE X Z C x) := (h.e _ _ _ _ _ F q).v rfl
theorem Snd.pt (h : Snd g C k x) (F : Fits g C k c X Z) (q : (ok g x).e c true a = true) : PT X a (rdB X Z C x) := (h.e _ _ _ _ _ F q).ts rfl
/-- an operand that is looked at -/
theorem Snd.pp (h : Snd g C k x) (F : Fits g C k c X Z) (q : (ok g x).e c false a = true) : PE X a (rdP X Z C x) := by
  refine se_brw (h.pe F q) ?_
  rintro i rfl
  have q : (match (generalizing := false) a with | .Name n _ => lcl c i n | _ => false) = true := q
  split at q
  · exact lcl_pe F q
  · cases q
theorem Snd.hv (F : Fits g C k c X Z) (q : (ok g x).e c false a = true) : ∀ i, x = .loc i → PE X a (tVar i) := by
  rintro i rfl
  have q : (match (generalizing := false) a with | .Name n _ => lcl c i n | _ => false) = true := q
  split at q
  · exact lcl_pe F q
  · cases q
/-- the rest of a row -/
theorem Snd.one {o : BoolOp} {es : List Expr} (h : Snd g C k x) (F : Fits g C k c X Z) (q : (ok g x).e c false (one o (b :: es) pos) = true) : PE X (.BoolOp o (b :: es) pos) (rdE X Z C x) := by
  cases es with
  | nil => exact pe_one (h.pe F q)
  | cons => exact h.pe F q
theorem Snd.onw {o : BoolOp} {es : List Expr} (h : Snd g C k x) (F : Fits g C k c X Z) (q : (ok g x).e c true (Pi.one o (b :: es) pos) = true) : PW X (.BoolOp o (b :: es) pos) (rdB X Z C x) := by
  cases es with
  | nil =>
    cases o with
    | And => exact pw_and1 (h.pt F q)
    | Or => exact pw_or1 (h.pt F q)
  | cons => exact (h.e _ _ _ _ _ F q).w rfl _ _ _ rfl
theorem okC_sound {ifs : List Expr} (h : Snd g C k x) (F : Fits g C k c X Z) (q : okC (ok g x) (isTrueE x) c ifs = true) : ∃ tt, (∀ σ H Q, rdB X Z C x σ H Q → tt σ H Q) ∧ PTs X ifs tt := by
  unfold okC at q
  split at q
  · refine ⟨tYes, fun σ H Q r => ?_, pts_nil⟩
    obtain ⟨w, st, rel, p⟩ := r
    unfold isTrueE at q
    split at q
    · exact p true w H Go.refl rel rfl
    · cases q
  · exact ⟨_, fun _ _ _ r => r, pts_one (h.pt F q)⟩
  · cases q
theorem ty_pe {n : Str} {ty : Ty} (F : Fits g C k c X Z) (e : n = tyS ty) (h : bin g c (tyS ty) = true) : PE X (.Name n pos) (tC (.ty (tyN ty))) := by
  obtain ⟨h1, h2⟩ := bin_gl F h
  subst e
  cases ty <;> exact pe_bltn h1 h2 (by rfl) rfl

theorem sndE (l : ∀ c es, (ok g x).l c es = false) (o : ∀ c a, (ok g x).o c a = false) (i : ∀ c tg a, (ok g x).i c tg a = false) (e : ∀ c X Z t a, Fits g C k c X Z → (ok g x).e c t a = true → Val X Z C x t a) : Snd g C k x :=
  ⟨e, fun c X Z es _ h => (by rw [l] at h; cases h), fun c X Z a _ h => (by rw [o] at h; cases h), fun c X Z tg a _ h => (by rw [i] at h; cases h)⟩
theorem sndI (l : ∀ c es, (ok g x).l c es = false) (o : ∀ c a, (ok g x).o c a = false) (e : ∀ c t a, (ok g x).e c t a = false) (i : ∀ c X Z tg a, Fits g C k c X Z → (ok g x).i c tg a = true → PI X tg a (rdI X Z C x)) : Snd g C k x :=
  ⟨fun c X Z t a _ h => (by rw [e] at h; cases h), fun c X Z es _ h => (by rw [l] at h; cases h), fun c X Z a _ h => (by rw [o] at h; cases h), i⟩
theorem snd0 (l : ∀ c es, (ok g x).l c es = false) (o : ∀ c a, (ok g x).o c a = false) (e : ∀ c t a, (ok g x).e c t a = false) (i : ∀ c tg a, (ok g x).i c tg a = false) : Snd g C k x :=
  ⟨fun c X Z t a _ h => (by rw [e] at h; cases h), fun c X Z es _ h => (by rw [l] at h; cases h), fun c X Z a _ h => (by rw [o] at h; cases h), fun c X Z tg a _ h => (by rw [i] at h; cases h)⟩
theorem nom {P : Prop} (h : false = true) : P := nomatch h
theorem rdNo {Q : VK} {σ : L2.St} {H : Hp} (h : rdE X Z C .no σ H Q) : False := by
  obtain ⟨w, st, rel, p⟩ := h
  exact p
theorem rdNoB {Q : Bool → Hp → Prop} {σ : L2.St} {H : Hp} (h : rdB X Z C .no σ H Q) : False := by
  obtain ⟨w, st, rel, p⟩ := h
  exact p
theorem snd_no : Snd g C k .no := ⟨fun c X Z t a _ _ => ⟨fun _ => ⟨fun _ _ _ _ _ _ q => (rdNo q).elim⟩, fun _ => ⟨fun _ _ _ _ _ _ q => (rdNoB q).elim⟩, fun _ _ _ _ _ => ⟨fun _ _ _ _ _ _ _ q => (rdNoB q).elim⟩⟩, fun c X Z es _ h => nom h, fun c X Z a _ h => by
    cases a with
    | none => exact so_none
    | some => exact nom h, fun c X Z tg a _ h => nom h⟩
theorem snd_nil : Snd g C k .nil := ⟨fun c X Z t a _ h => nom h, fun c X Z es _ h => by
    cases es with
    | nil => exact ⟨sa_nil, sr_nil, _, .nil⟩
    | cons => exact nom h, fun c X Z a _ h => nom h, fun c X Z tg a _ h => nom h⟩
theorem snd_cons (ix : Snd g C k x) (iy : Snd g C k y) : Snd g C k (.cons x y) := ⟨fun c X Z t a _ h => nom h, fun c X Z es F h => by
    cases es with
    | nil => exact nom h
    | cons e es =>
      have h : (nst e && (ok g x).e c false e && (ok g y).l c es) = true := h
      simp only [Bool.and_eq_true] at h
      obtain ⟨⟨h1, h2⟩, h3⟩ := h
      have q := iy.l _ _ _ _ F h3
      obtain ⟨ts, j⟩ := q.j
      exact ⟨sa_cons (ix.pe F h2) q.l (nst_hs h1), sr_cons (ix.pe F h2) q.r (nst_hs h1), _, .cons (ix.pe F h2) j⟩, fun c X Z a _ h => nom h, fun c X Z tg a _ h => nom h⟩
theorem snd_yes (ix : Snd g C k x) : Snd g C k (.yes x) := ⟨fun c X Z t a _ h => nom h, fun c X Z es _ h => nom h, fun c X Z a F h => by
    cases a with
    | none => exact nom h
    | some e => exact so_some (ix.pe F h), fun c X Z tg a _ h => nom h⟩
theorem snd_cN : Snd g C k .cN := sndE (fun _ _ => rfl) (fun _ _ => rfl) (fun _ _ _ => rfl) fun c X Z t a F h => by
  have h : (match (generalizing := false) a with | .Constant .none _ _ => !t | _ => false) = true := h
  split at h
  · exact .no (by simpa using h) se_cN
  · cases h
theorem snd_cB {b : Bool} : Snd g C k (.cB b) := sndE (fun _ _ => rfl) (fun _ _ => rfl) (fun _ _ _ => rfl) fun c X Z t a F h => by
  have h : (match (generalizing := false) a with | .Constant (.bool b') _ _ => decide (b = b') | _ => false) = true := h
  split at h
  · have h := of_decide_eq_true h
    subst h
    exact .of rfl se_cB
  · cases h
theorem snd_cI {b : Int} : Snd g C k (.cI b) := sndE (fun _ _ => rfl) (fun _ _ => rfl) (fun _ _ _ => rfl) fun c X Z t a F h => by
  have h : (match (generalizing := false) a with | .Constant (.int j) _ _ => !t && decide (b = j) | _ => false) = true := h
  split at h
  · simp only [Bool.and_eq_true, Bool.not_eq_true', decide_eq_true_eq] at h
    obtain ⟨h1, rfl⟩ := h
    exact .no h1 se_cI
  · cases h
theorem snd_cS {b : Str} : Snd g C k (.cS b) := sndE (fun _ _ => rfl) (fun _ _ => rfl) (fun _ _ _ => rfl) fun c X Z t a F h => by
  have h : (match (generalizing := false) a with | .Constant (.str j) _ _ => !t && decide (b = j) | _ => false) = true := h
  split at h
  · simp only [Bool.and_eq_true, Bool.not_eq_true', decide_eq_true_eq] at h
    obtain ⟨h1, rfl⟩ := h
    exact .no h1 se_cS
  · cases h
theorem snd_loc {i : Nat} : Snd g C k (.loc i) := sndE (fun _ _ => rfl) (fun _ _ => rfl) (fun _ _ _ => rfl) fun c X Z t a F h => by
  have h : (match (generalizing := false) a with | .Name n _ => lcl c i n | _ => false) = true := h
  split at h
  · exact .of rfl (se_loc (lcl_pe F h))
  · cases h
theorem snd_glb {n : Str} : Snd g C k (.glb n) := sndE (fun _ _ => rfl) (fun _ _ => rfl) (fun _ _ _ => rfl) fun c X Z t a F h => by
  have h : (match (generalizing := false) a with | .Name m _ => decide (n = m) && glo c m | _ => false) = true := h
  split at h
  · simp only [Bool.and_eq_true, decide_eq_true_eq] at h
    obtain ⟨rfl, h2⟩ := h
    obtain ⟨h3, h4⟩ := glo_gl F h2
    refine .of rfl ⟨fun pins s σ H Q I q => ?_⟩
    obtain ⟨w, st, rel, p⟩ := q
    have p : Post X.K X.mg Z (RV_ X.K X.mg) σ H w st (lift ((C.cst n).map .val) st) Q := p
    cases e : C.cst n with
    | none => rw [e] at p; exact p.elim
    | some d =>
      rw [e] at p
      obtain ⟨v, u, q1, q2, q3⟩ := F.cst n d e
      exact (pe_glob h3 q1 q2 h4).run pins s σ H Q I (p v w H Go.refl rel (q3 w H))
  · cases h
theorem snd_bin {o : Operator} (ix : Snd g C k x) (iy : Snd g C k y) : Snd g C k (.bin o x y) := sndE (fun _ _ => rfl) (fun _ _ => rfl) (fun _ _ _ => rfl) fun c X Z t a F h => by
  have h : (match (generalizing := false) a with | .BinOp l o' r _ => !t && decide (o = o') && (ok g x).e c false l && (ok g y).e c false r | _ => false) = true := h
  split at h
  · simp only [Bool.and_eq_true, Bool.not_eq_true', decide_eq_true_eq] at h
    obtain ⟨⟨⟨h1, rfl⟩, h3⟩, h4⟩ := h
    exact .no h1 (se_bin (ix.pe F h3) (iy.pe F h4))
  · cases h
theorem snd_neg (ix : Snd g C k x) : Snd g C k (.neg x) := sndE (fun _ _ => rfl) (fun _ _ => rfl) (fun _ _ _ => rfl) fun c X Z t a F h => by
  have h : (match (generalizing := false) a with | .UnaryOp .USub l _ => !t && (ok g x).e c false l | _ => false) = true := h
  split at h
  · simp only [Bool.and_eq_true, Bool.not_eq_true', decide_eq_true_eq] at h
    exact .no h.1 (se_neg (ix.pe F h.2))
  · cases h
theorem snd_and (ix : Snd g C k x) (iy : Snd g C k y) : Snd g C k (.and x y) := sndE (fun _ _ => rfl) (fun _ _ => rfl) (fun _ _ _ => rfl) fun c X Z t a F h => by
  have h : (match (generalizing := false) a with | .BoolOp .And (l :: m :: rest) p => !t && (ok g x).e c false l && (ok g y).e c false (one .And (m :: rest) p) | _ => false) = true := h
  split at h
  · simp only [Bool.and_eq_true, Bool.not_eq_true', decide_eq_true_eq] at h
    exact .no h.1.1 (se_and (ix.pe F h.1.2) (iy.one F h.2))
  · cases h
theorem snd_or (ix : Snd g C k x) (iy : Snd g C k y) : Snd g C k (.or x y) := sndE (fun _ _ => rfl) (fun _ _ => rfl) (fun _ _ _ => rfl) fun c X Z t a F h => by
  have h : (match (generalizing := false) a with | .BoolOp .Or (l :: m :: rest) p => !t && (ok g x).e c false l && (ok g y).e c false (one .Or (m :: rest) p) | _ => false) = true := h
  split at h
  · simp only [Bool.and_eq_true, Bool.not_eq_true', decide_eq_true_eq] at h
    exact .no h.1.1 (se_or (ix.pe F h.1.2) (iy.one F h.2))
  · cases h
theorem snd_not (ix : Snd g C k x) : Snd g C k (.not x) := sndE (fun _ _ => rfl) (fun _ _ => rfl) (fun _ _ _ => rfl) fun c X Z t a F h => by
  have h : (match (generalizing := false) a with | .UnaryOp .Not l _ => !t && (ok g x).e c false l | _ => false) = true := h
  split at h
  · simp only [Bool.and_eq_true, Bool.not_eq_true', decide_eq_true_eq] at h
    exact .no h.1 (se_not (ix.pe F h.2))
  · cases h
theorem snd_tand (ix : Snd g C k x) (iy : Snd g C k y) : Snd g C k (.tand x y) := sndE (fun _ _ => rfl) (fun _ _ => rfl) (fun _ _ _ => rfl) fun c X Z t a F h => by
  have h : (match (generalizing := false) a with | .BoolOp .And (l :: m :: rest) p => t && (ok g x).e c true l && (ok g y).e c true (one .And (m :: rest) p) | _ => false) = true := h
  split at h
  · simp only [Bool.and_eq_true, Bool.not_eq_true', decide_eq_true_eq] at h
    have q := se_tand (pos := ‹Pos›) (ix.pt F h.1.2) (iy.onw F h.2)
    exact ⟨(fun e => by rw [h.1.1] at e; cases e), fun _ => q.pt, fun _ _ _ _ e => q⟩
  · cases h
theorem snd_tor (ix : Snd g C k x) (iy : Snd g C k y) : Snd g C k (.tor x y) := sndE (fun _ _ => rfl) (fun _ _ => rfl) (fun _ _ _ => rfl) fun c X Z t a F h => by
  have h : (match (generalizing := false) a with | .BoolOp .Or (l :: m :: rest) p => t && (ok g x).e c true l && (ok g y).e c true (one .Or (m :: rest) p) | _ => false) = true := h
  split at h
  · simp only [Bool.and_eq_true, Bool.not_eq_true', decide_eq_true_eq] at h
    have q := se_tor (pos := ‹Pos›) (ix.pt F h.1.2) (iy.onw F h.2)
    exact ⟨(fun e => by rw [h.1.1] at e; cases e), fun _ => q.pt, fun _ _ _ _ e => q⟩
  · cases h
theorem snd_tnot (ix : Snd g C k x) : Snd g C k (.tnot x) := sndE (fun _ _ => rfl) (fun _ _ => rfl) (fun _ _ _ => rfl) fun c X Z t a F h => by
  have h : (match (generalizing := false) a with | .UnaryOp .Not l _ => t && (ok g x).e c true l | _ => false) = true := h
  split at h
  · simp only [Bool.and_eq_true, Bool.not_eq_true', decide_eq_true_eq] at h
    exact ⟨(fun e => by rw [h.1] at e; cases e), fun _ => se_tnot (ix.pt F h.2), fun _ _ _ _ e => nomatch e⟩
  · cases h
theorem snd_tru (ix : Snd g C k x) : Snd g C k (.tru x) := sndE (fun _ _ => rfl) (fun _ _ => rfl) (fun _ _ _ => rfl) fun c X Z t a F h => by
  have h : (t && dsh a && (ok g x).e c false a) = true := h
  simp only [Bool.and_eq_true] at h
  exact ⟨(fun e => by rw [h.1.1] at e; cases e), fun _ => se_tru (ix.pe F h.2) (dsh_sh h.1.2), fun _ o es p e => by have := h.1.2; rw [e] at this; cases this⟩
theorem snd_cmp {o : CmpOp} (ix : Snd g C k x) (iy : Snd g C k y) : Snd g C k (.cmp o x y) := sndE (fun _ _ => rfl) (fun _ _ => rfl) (fun _ _ _ => rfl) fun c X Z t a F h => by
  have h : (match (generalizing := false) a with | .Compare l [o'] [r] _ => decide (o = o') && !behindInMarks o r && (ok g x).e c false l && (ok g y).e c false r | _ => false) = true := h
  split at h
  · simp only [Bool.and_eq_true, Bool.not_eq_true', decide_eq_true_eq] at h
    obtain ⟨⟨⟨rfl, h2⟩, h3⟩, h4⟩ := h
    exact .both (se_cmp (by have := F.room.un; omega) (ix.pe F h3) (iy.pp F h4) h2) (fun _ _ _ e => nomatch e)
  · cases h
theorem snd_cmp2 {o o' : CmpOp} (ix : Snd g C k x) (iy : Snd g C k y) (iz : Snd g C k z) : Snd g C k (.cmp2 o o' x y z) := sndE (fun _ _ => rfl) (fun _ _ => rfl) (fun _ _ _ => rfl) fun c X Z t a F h => by
  have h : (match (generalizing := false) a with | .Compare l [p1, p2] [m, r] _ => decide (o = p1) && decide (o' = p2) && !lastMarks [o, o'] [m, r] && (ok g x).e c false l && (ok g y).e c false m && (ok g z).e c false r | _ => false) = true := h
  split at h
  · simp only [Bool.and_eq_true, Bool.not_eq_true', decide_eq_true_eq] at h
    obtain ⟨⟨⟨⟨⟨rfl, rfl⟩, h2⟩, h3⟩, h4⟩, h5⟩ := h
    exact .both (se_cmp2 (by have := F.room.un; omega) (ix.pe F h3) (iy.pe F h4) (iz.pe F h5) h2) (fun _ _ _ e => nomatch e)
  · cases h
theorem snd_isN (ix : Snd g C k x) : Snd g C k (.isN x) := sndE (fun _ _ => rfl) (fun _ _ => rfl) (fun _ _ _ => rfl) fun c X Z t a F h => by
  have h : (match (generalizing := false) a with | .Compare l [.Is] [.Constant .none _ _] _ => (ok g x).e c false l | _ => false) = true := h
  split at h
  · exact .both (se_isN (ix.pe F h)) (fun _ _ _ e => nomatch e)
  · cases h
theorem snd_notN (ix : Snd g C k x) : Snd g C k (.notN x) := sndE (fun _ _ => rfl) (fun _ _ => rfl) (fun _ _ _ => rfl) fun c X Z t a F h => by
  have h : (match (generalizing := false) a with | .Compare l [.IsNot] [.Constant .none _ _] _ => (ok g x).e c false l | _ => false) = true := h
  split at h
  · exact .both (se_notN (ix.pe F h)) (fun _ _ _ e => nomatch e)
  · cases h
theorem snd_isi {ty : Ty} (ix : Snd g C k x) : Snd g C k (.isi x ty) := sndE (fun _ _ => rfl) (fun _ _ => rfl) (fun _ _ _ => rfl) fun c X Z t a F h => by
  have h : (match (generalizing := false) a with | .Call (.Name f _) [l, .Name n _] [] _ => decide (f = "isinstance") && bin g c "isinstance" && decide (n = tyS ty) && bin g c (tyS ty) && nst l && (ok g x).e c false l | _ => false) = true := h
  split at h
  · simp only [Bool.and_eq_true, Bool.not_eq_true', decide_eq_true_eq] at h
    obtain ⟨⟨⟨⟨⟨rfl, h2⟩, h3⟩, h4⟩, h5⟩, h6⟩ := h
    obtain ⟨q1, q2⟩ := bin_gl F h2
    exact .of rfl (se_isi q1 q2 (ix.pe F h6) (ty_pe F h3 h4) (nst_hs h5))
  · cases h
theorem snd_ite (iz : Snd g C k z) (ix : Snd g C k x) (iy : Snd g C k y) : Snd g C k (.ite z x y) := sndE (fun _ _ => rfl) (fun _ _ => rfl) (fun _ _ _ => rfl) fun c X Z t a F h => by
  have h : (match (generalizing := false) a with | .IfExp q l r _ => !t && (ok g z).e c true q && (ok g x).e c false l && (ok g y).e c false r | _ => false) = true := h
  split at h
  · simp only [Bool.and_eq_true, Bool.not_eq_true', decide_eq_true_eq] at h
    obtain ⟨⟨⟨h1, h2⟩, h3⟩, h4⟩ := h
    exact .no h1 (se_ite (iz.pt F h2) (ix.pe F h3) (iy.pe F h4))
  · cases h
theorem snd_tup (ix : Snd g C k x) : Snd g C k (.tup x) := sndE (fun _ _ => rfl) (fun _ _ => rfl) (fun _ _ _ => rfl) fun c X Z t a F h => by
  have h : (match (generalizing := false) a with | .Tuple es _ _ => !t && (ok g x).l c es | _ => false) = true := h
  split at h
  · simp only [Bool.and_eq_true, Bool.not_eq_true', decide_eq_true_eq] at h
    exact .no h.1 (se_tup (ix.l _ _ _ _ F h.2).l)
  · cases h
theorem snd_lst (ix : Snd g C k x) : Snd g C k (.lst x) := sndE (fun _ _ => rfl) (fun _ _ => rfl) (fun _ _ _ => rfl) fun c X Z t a F h => by
  have h : (match (generalizing := false) a with | .List es _ => !t && (ok g x).l c es | _ => false) = true := h
  split at h
  · simp only [Bool.and_eq_true, Bool.not_eq_true', decide_eq_true_eq] at h
    exact .no h.1 (se_lst (ix.l _ _ _ _ F h.2).l)
  · cases h
theorem snd_idx (ix : Snd g C k x) (iy : Snd g C k y) : Snd g C k (.idx x y) := sndE (fun _ _ => rfl) (fun _ _ => rfl) (fun _ _ _ => rfl) fun c X Z t a F h => by
  have h : (match (generalizing := false) a with | .Subscript l r _ => nsl r && (ok g x).e c false l && (ok g y).e c false r | _ => false) = true := h
  split at h
  · simp only [Bool.and_eq_true, Bool.not_eq_true', decide_eq_true_eq] at h
    exact .of rfl (se_idx (ix.pp F h.1.2) (iy.pe F h.2) (nsl_ix h.1.1))
  · cases h
theorem snd_slc (ix : Snd g C k x) (iy : Snd g C k y) (iz : Snd g C k z) : Snd g C k (.slc x y z) := sndE (fun _ _ => rfl) (fun _ _ => rfl) (fun _ _ _ => rfl) fun c X Z t a F h => by
  have h : (match (generalizing := false) a with | .Subscript l (.Slice lo hi none _) _ => !t && (ok g x).e c false l && (ok g y).o c lo && (ok g z).o c hi | _ => false) = true := h
  split at h
  · simp only [Bool.and_eq_true, Bool.not_eq_true', decide_eq_true_eq] at h
    exact .no h.1.1.1 (se_slc (ix.pp F h.1.1.2) (iy.o _ _ _ _ F h.1.2) (iz.o _ _ _ _ F h.2))
  · cases h
end
end Pi

set_option Elab.async false
set_option linter.all false
set_option maxRecDepth 100000
set_option maxHeartbeats 1000000
/-! PiSnd2: blocks, sources, calls; all expressions. -/
namespace Pi
open PySem L2
section
variable {g : Gb} {C : Cfg} {k : Nat} {c : Ct} {X : Cx} {Z : WX} {a b : Expr} {es : List Expr} {x y z : E} {pos : Pos} {t : Bool}
def ttC (X : Cx) (C : Cfg) (x : E) : List Expr → TT
  | [] => tYes
  | _ => rdB X Z0 C x
theorem okC_tt {ifs : List Expr} (h : Snd g C k x) (q : okC (ok g x) (isTrueE x) c ifs = true) : (∀ X σ H Q, rdB X Z0 C x σ H Q → ttC X C x ifs σ H Q) ∧ ∀ X, Fits g C k c X Z0 → PTs X ifs (ttC X C x ifs) := by
  unfold okC at q
  split at q
  · refine ⟨fun X σ H Q r => ?_, fun X F => pts_nil⟩
    obtain ⟨w, st, rel, p⟩ := r
    unfold isTrueE at q
    split at q
    · exact p true w H Go.refl rel rfl
    · cases q
  · exact ⟨fun _ _ _ _ r => r, fun X F => pts_one (h.pt F q)⟩
  · cases q
theorem own_map {c : Ct} : ∀ vs : List Nat, (ownOf c vs).map (·.2) = vs := by
  intro vs
  unfold ownOf
  rw [List.map_map]
  exact List.map_id'' (fun _ => rfl) vs
/-- the parts of a block's reading -/
structure CompP (X : Cx) (Z : WX) (C : Cfg) (c : Ct) (vs : List Nat) (e : E) (t : T) (src cnd : E) (elt tg iter : Expr) (ifs : List Expr) (scope : Scope) : Prop where
  blk : BlkOk X.N X.env.scope scope (ownOf c vs)
  sl : ∀ i ∈ t.sl, i ∈ (ownOf c vs).map (·.2)
  hi : PI X tg iter (rdI X Z C src)
  hg : ∀ (s : Shared) (H : Hp) (Ca : Addr) (cl : List (Str × Addr)) (fp : List Addr), PG (X.blk s H scope (compEnvC scope cl Ca X.env) fp) tg (rdG X t)
  htt : ∀ σ H Q, rdB X Z0 C cnd σ H Q → ttC X C cnd ifs σ H Q
  ht : ∀ (s : Shared) (H : Hp) (Ca : Addr) (cl : List (Str × Addr)) (fp : List Addr), PTs (X.blk s H scope (compEnvC scope cl Ca X.env) fp) ifs (ttC X C cnd ifs)
  he : ∀ (s : Shared) (H : Hp) (Ca : Addr) (cl : List (Str × Addr)) (fp : List Addr), PE (X.blk s H scope (compEnvC scope cl Ca X.env) fp) elt (rdE X Z0 C e)
  hs : ∀ x, foldedSetIterable iter X.env x = pure x
theorem comp_parts {vs : List Nat} {e src cnd : E} {t : T} {elt tg iter : Expr} {ifs : List Expr} {scope : Scope} {k2 : Nat} (ie : Snd g C k e) (is : Snd g C k src) (ic : Snd g C k cnd) (F : Fits g C k c X Z)
    (h1 : blkC c.N c.sc scope (ownOf c vs) = true) (h2 : (t.sl.all fun i => decide (i ∈ vs)) = true) (h3 : nse iter = true) (h4 : (ok g src).i c tg iter = true) (h5 : (okG ⟨relS scope c.sc, c.N, false, c.lam⟩ t).e tg = true)
    (h6 : okC (ok g cnd) (isTrueE cnd) ⟨relS scope c.sc, c.N, false, c.lam⟩ ifs = true) (h7 : (ok g e).e ⟨relS scope c.sc, c.N, false, c.lam⟩ false elt = true) : CompP X Z C c vs e t src cnd elt tg iter ifs scope where
  blk := by rw [F.N, F.sc]; exact blkOk_by h1
  sl := fun i hi => by
    rw [own_map]
    exact of_decide_eq_true (List.all_eq_true.mp h2 i hi)
  hi := is.i _ _ _ _ _ F h4
  hg := fun s H Ca cl fp => (okG_sound (F.blk scope s H Ca cl fp) t).1 tg h5
  htt := (okC_tt ic h6).1 X
  ht := fun s H Ca cl fp => (okC_tt ic h6).2 _ (F.blk scope s H Ca cl fp)
  he := fun s H Ca cl fp => ie.pe (F.blk scope s H Ca cl fp) h7
  hs := nse_fs h3 _
structure CompP2 (X : Cx) (Z : WX) (C : Cfg) (c : Ct) (vs vs1 : List Nat) (e : E) (t : T) (src cnd : E) (t1 : T) (src1 cnd1 : E) (elt tg iter : Expr) (ifs : List Expr) (tg1 iter1 : Expr) (ifs1 : List Expr) (scope : Scope) : Prop where
  p : CompP X Z C c vs e t src cnd elt tg iter ifs scope
  hv : ∀ i ∈ vs1, i ∈ (ownOf c vs).map (·.2)
  sl1 : ∀ i ∈ t1.sl, i ∈ vs1
  hi1 : ∀ (s : Shared) (H : Hp) (Ca : Addr) (cl : List (Str × Addr)) (fp : List Addr), PI (X.blk s H scope (compEnvC scope cl Ca X.env) fp) tg1 iter1 (rdI X Z0 C src1)
  hg1 : ∀ (s : Shared) (H : Hp) (Ca : Addr) (cl : List (Str × Addr)) (fp : List Addr), PG (X.blk s H scope (compEnvC scope cl Ca X.env) fp) tg1 (rdG X t1)
  htt1 : ∀ σ H Q, rdB X Z0 C cnd1 σ H Q → ttC X C cnd1 ifs1 σ H Q
  ht1 : ∀ (s : Shared) (H : Hp) (Ca : Addr) (cl : List (Str × Addr)) (fp : List Addr), PTs (X.blk s H scope (compEnvC scope cl Ca X.env) fp) ifs1 (ttC X C cnd1 ifs1)
  hs1 : ∀ env x, foldedSetIterable iter1 env x = pure x
theorem comp_chk {vs : List Nat} {e src cnd : E} {t : T} {m : Bool} (ie : Snd g C k e) (is : Snd g C k src) (ic : Snd g C k cnd) (F : Fits g C k c X Z) (h : (ok g (.comp vs e t src cnd)).e c m a = true) :
    m = false ∧ ∃ elt tg iter ifs scope p, a = .ListComp elt [⟨tg, iter, ifs, 0⟩] scope p ∧ CompP X Z C c vs e t src cnd elt tg iter ifs scope := by
  have h : (match (generalizing := false) a with
      | .ListComp elt [⟨tg, iter, ifs, 0⟩] scope _ => !m && blkC c.N c.sc scope (ownOf c vs) && (t.sl.all fun i => decide (i ∈ vs)) && nse iter && (ok g src).i c tg iter && (okG ⟨relS scope c.sc, c.N, false, c.lam⟩ t).e tg &&
          okC (ok g cnd) (isTrueE cnd) ⟨relS scope c.sc, c.N, false, c.lam⟩ ifs && (ok g e).e ⟨relS scope c.sc, c.N, false, c.lam⟩ false elt
      | _ => false) = true := h
  split at h
  · simp only [Bool.and_eq_true, Bool.not_eq_true'] at h
    obtain ⟨⟨⟨⟨⟨⟨⟨h0, h1⟩, h2⟩, h3⟩, h4⟩, h5⟩, h6⟩, h7⟩ := h
    exact ⟨h0, _, _, _, _, _, _, rfl, comp_parts (k2 := 0) ie is ic F h1 h2 h3 h4 h5 h6 h7⟩
  · cases h
theorem comp2_chk {vs vs1 : List Nat} {e src cnd src1 cnd1 : E} {t t1 : T} {m : Bool} (ie : Snd g C k e) (is : Snd g C k src) (ic : Snd g C k cnd) (is1 : Snd g C k src1) (ic1 : Snd g C k cnd1) (F : Fits g C k c X Z) (h : (ok g (.comp2 vs vs1 e t src cnd t1 src1 cnd1)).e c m a = true) :
    m = false ∧ ∃ elt tg iter ifs tg1 iter1 ifs1 scope p, a = .ListComp elt [⟨tg, iter, ifs, 0⟩, ⟨tg1, iter1, ifs1, 0⟩] scope p ∧ CompP2 X Z C c vs vs1 e t src cnd t1 src1 cnd1 elt tg iter ifs tg1 iter1 ifs1 scope := by
  have h : (match (generalizing := false) a with
      | .ListComp elt [⟨tg, iter, ifs, 0⟩, ⟨tg1, iter1, ifs1, 0⟩] scope _ => !m && blkC c.N c.sc scope (ownOf c vs) && (t.sl.all fun i => decide (i ∈ vs)) && (vs1.all fun i => decide (i ∈ vs)) && (t1.sl.all fun i => decide (i ∈ vs1)) && nse iter && nse iter1 &&
          (ok g src).i c tg iter && (okG ⟨relS scope c.sc, c.N, false, c.lam⟩ t).e tg && okC (ok g cnd) (isTrueE cnd) ⟨relS scope c.sc, c.N, false, c.lam⟩ ifs && (ok g e).e ⟨relS scope c.sc, c.N, false, c.lam⟩ false elt &&
          (ok g src1).i ⟨relS scope c.sc, c.N, false, c.lam⟩ tg1 iter1 && (okG ⟨relS scope c.sc, c.N, false, c.lam⟩ t1).e tg1 && okC (ok g cnd1) (isTrueE cnd1) ⟨relS scope c.sc, c.N, false, c.lam⟩ ifs1
      | _ => false) = true := h
  split at h
  · simp only [Bool.and_eq_true, Bool.not_eq_true'] at h
    obtain ⟨⟨⟨⟨⟨⟨⟨⟨⟨⟨⟨⟨⟨h0, h1⟩, h2⟩, h8⟩, h9⟩, h3⟩, h10⟩, h4⟩, h5⟩, h6⟩, h7⟩, h11⟩, h12⟩, h13⟩ := h
    refine ⟨h0, _, _, _, _, _, _, _, _, _, rfl, comp_parts (k2 := 0) ie is ic F h1 h2 h3 h4 h5 h6 h7, fun i hi => ?_, fun i hi => of_decide_eq_true (List.all_eq_true.mp h9 i hi), fun s H Ca cl fp => is1.i _ _ _ _ _ (F.blk _ s H Ca cl fp) h11,
      fun s H Ca cl fp => (okG_sound (F.blk _ s H Ca cl fp) t1).1 _ h12, (okC_tt ic1 h13).1 X, fun s H Ca cl fp => (okC_tt ic1 h13).2 _ (F.blk _ s H Ca cl fp), fun env u => nse_fs h10 env u⟩
    rw [own_map]
    exact of_decide_eq_true (List.all_eq_true.mp h8 i hi)
  · cases h
theorem snd_comp {vs : List Nat} {e src cnd : E} {t : T} (ie : Snd g C k e) (is : Snd g C k src) (ic : Snd g C k cnd) : Snd g C k (.comp vs e t src cnd) := sndE (fun _ _ => rfl) (fun _ _ => rfl) (fun _ _ _ => rfl) fun c X Z m a F h => by
  obtain ⟨h0, elt, tg, iter, ifs, scope, p, rfl, q⟩ := comp_chk ie is ic F h
  have := (se_comp (pos := p) F.calm F.nd q.blk q.sl q.hi q.hg q.htt q.ht q.he q.hs).2
  rw [own_map] at this
  exact .no h0 this
theorem snd_comp2 {vs vs1 : List Nat} {e src cnd src1 cnd1 : E} {t t1 : T} (ie : Snd g C k e) (is : Snd g C k src) (ic : Snd g C k cnd) (is1 : Snd g C k src1) (ic1 : Snd g C k cnd1) : Snd g C k (.comp2 vs vs1 e t src cnd t1 src1 cnd1) := sndE (fun _ _ => rfl) (fun _ _ => rfl) (fun _ _ _ => rfl) fun c X Z m a F h => by
  obtain ⟨h0, elt, tg, iter, ifs, tg1, iter1, ifs1, scope, p, rfl, q⟩ := comp2_chk ie is ic is1 ic1 F h
  have := (se_comp2 (pos := p) F.calm F.nd q.p.blk q.p.sl q.hv q.sl1 q.p.hi q.p.hg q.p.htt q.htt1 q.p.ht q.p.he q.p.hs q.hi1 q.hg1 q.ht1 q.hs1).2
  rw [own_map] at this
  exact .no h0 this

/-! ### sources -/
theorem snd_itr (ix : Snd g C k x) : Snd g C k (.itr x) := sndI (fun _ _ => rfl) (fun _ _ => rfl) (fun _ _ _ => rfl) fun c X Z tg a F h => si_itr (ix.pe F h)
theorem hs1 (h : nst a = true) : starEach [a] X.env = [(false, eval a X.env)] := nst_hs h
theorem hs2 (h : nst a = true) (h' : nst b = true) : starEach [a, b] X.env = [(false, eval a X.env), (false, eval b X.env)] := by rw [nst_hs h, hs1 h']
theorem snd_rng1 (ix : Snd g C k x) : Snd g C k (.rng1 x) := sndI (fun _ _ => rfl) (fun _ _ => rfl) (fun _ _ _ => rfl) fun c X Z tg a F h => by
  have h : (match (generalizing := false) a with | .Call (.Name n _) [l] [] _ => decide (n = "range") && bin g c "range" && nst l && (ok g x).e c false l | _ => false) = true := h
  split at h
  · simp only [Bool.and_eq_true, decide_eq_true_eq] at h
    obtain ⟨⟨⟨rfl, h2⟩, h3⟩, h4⟩ := h
    obtain ⟨q1, q2⟩ := bin_gl F h2
    exact si_rng1 q1 q2 (ix.pe F h4) (hs1 h3)
  · cases h
theorem snd_rng2 (ix : Snd g C k x) (iy : Snd g C k y) : Snd g C k (.rng2 x y) := sndI (fun _ _ => rfl) (fun _ _ => rfl) (fun _ _ _ => rfl) fun c X Z tg a F h => by
  have h : (match (generalizing := false) a with | .Call (.Name n _) [l, r] [] _ => decide (n = "range") && bin g c "range" && nst l && nst r && (ok g x).e c false l && (ok g y).e c false r | _ => false) = true := h
  split at h
  · simp only [Bool.and_eq_true, decide_eq_true_eq] at h
    obtain ⟨⟨⟨⟨⟨rfl, h2⟩, h3⟩, h4⟩, h5⟩, h6⟩ := h
    obtain ⟨q1, q2⟩ := bin_gl F h2
    exact si_rng2 q1 q2 (ix.pe F h5) (iy.pe F h6) (hs2 h3 h4) (hs1 h4)
  · cases h
theorem snd_zip2 (ix : Snd g C k x) (iy : Snd g C k y) : Snd g C k (.zip2 x y) := sndI (fun _ _ => rfl) (fun _ _ => rfl) (fun _ _ _ => rfl) fun c X Z tg a F h => by
  have h : (match (generalizing := false) tg, a with | .Tuple _ _ _, .Call (.Name n _) [l, r] [] _ => decide (n = "zip") && bin g c "zip" && nst l && nst r && (ok g x).e c false l && (ok g y).e c false r | _, _ => false) = true := h
  split at h
  · simp only [Bool.and_eq_true, decide_eq_true_eq] at h
    obtain ⟨⟨⟨⟨⟨rfl, h2⟩, h3⟩, h4⟩, h5⟩, h6⟩ := h
    obtain ⟨q1, q2⟩ := bin_gl F h2
    exact si_zip q1 q2 (ix.pe F h5) (iy.pe F h6) (nst_hs h3) (hs1 h4) (by rw [hs1 h4]; rfl)
  · cases h
theorem snd_enm (ix : Snd g C k x) : Snd g C k (.enm x) := sndI (fun _ _ => rfl) (fun _ _ => rfl) (fun _ _ _ => rfl) fun c X Z tg a F h => by
  have h : (match (generalizing := false) tg, a with | .Tuple _ _ _, .Call (.Name n _) [l] [] _ => decide (n = "enumerate") && bin g c "enumerate" && nst l && (ok g x).e c false l | _, _ => false) = true := h
  split at h
  · simp only [Bool.and_eq_true, decide_eq_true_eq] at h
    obtain ⟨⟨⟨rfl, h2⟩, h3⟩, h4⟩ := h
    obtain ⟨q1, q2⟩ := bin_gl F h2
    exact si_enm q1 q2 (ix.pe F h4) (hs1 h3)
  · cases h
theorem snd_revd (ix : Snd g C k x) : Snd g C k (.revd x) := sndI (fun _ _ => rfl) (fun _ _ => rfl) (fun _ _ _ => rfl) fun c X Z tg a F h => by
  have h : (match (generalizing := false) a with | .Call (.Name n _) [l] [] _ => decide (n = "reversed") && bin g c "reversed" && nst l && (ok g x).e c false l | _ => false) = true := h
  split at h
  · simp only [Bool.and_eq_true, decide_eq_true_eq] at h
    obtain ⟨⟨⟨rfl, h2⟩, h3⟩, h4⟩ := h
    obtain ⟨q1, q2⟩ := bin_gl F h2
    exact si_rev q1 q2 (ix.pe F h4) (hs1 h3)
  · cases h

/-! ### calls -/
theorem nss_cons (h : nss (a :: es) = true) : nst a = true ∧ nss es = true := by
  unfold nss at h ⊢
  rw [List.all_cons, Bool.and_eq_true] at h
  exact h
theorem snd_call {f : Str} (ix : Snd g C k x) : Snd g C k (.call f x) := sndE (fun _ _ => rfl) (fun _ _ => rfl) (fun _ _ _ => rfl) fun c X Z t a F h => by
  have h : (match (generalizing := false) a with | .Call (.Name n _) es [] _ => decide (n = f) && glo c f && decide (f ∈ g.fns) && nss es && (ok g x).l c es && (!es.isEmpty || isNil x) | _ => false) = true := h
  split at h
  · simp only [Bool.and_eq_true, decide_eq_true_eq] at h
    obtain ⟨⟨⟨⟨⟨rfl, h2⟩, h3⟩, h4⟩, h5⟩, h6⟩ := h
    obtain ⟨q1, q2⟩ := glo_gl F h2
    rename_i n p1 es p2
    cases es with
    | nil =>
      have h6 : isNil x = true := h6
      unfold isNil at h6
      split at h6
      · exact .of rfl (se_call0 (F.fns _ h3) F.room F.gu q1 F.tk q2)
      · cases h6
    | cons e es =>
      obtain ⟨n1, n2⟩ := nss_cons h4
      exact .of rfl (se_call (F.fns _ h3) F.room F.gu q1 F.tk (ix.l _ _ _ _ F h5).l q2 (nst_hs n1) (nss_back n2))
  · cases h
theorem snd_blt {f : Bi} (ix : Snd g C k x) : Snd g C k (.blt f x) := sndE (fun _ _ => rfl) (fun _ _ => rfl) (fun _ _ _ => rfl) fun c X Z t a F h => by
  have h : (match (generalizing := false) a with | .Call (.Name n _) (e :: es) [] _ => decide (n = biName f) && bin g c (biName f) && nss (e :: es) && (ok g x).l c (e :: es) | _ => false) = true := h
  split at h
  · simp only [Bool.and_eq_true, decide_eq_true_eq] at h
    obtain ⟨⟨⟨rfl, h2⟩, h3⟩, h4⟩ := h
    obtain ⟨q1, q2⟩ := bin_gl F h2
    obtain ⟨n1, n2⟩ := nss_cons h3
    exact .of rfl (se_blt f F.cm q1 q2 (ix.l _ _ _ _ F h4).l (nst_hs n1) (nss_back n2))
  · cases h
theorem snd_len (ix : Snd g C k x) : Snd g C k (.len x) := sndE (fun _ _ => rfl) (fun _ _ => rfl) (fun _ _ _ => rfl) fun c X Z t a F h => by
  have h : (match (generalizing := false) a with | .Call (.Name n _) [l] [] _ => decide (n = "len") && bin g c "len" && nst l && (ok g x).e c false l | _ => false) = true := h
  split at h
  · simp only [Bool.and_eq_true, decide_eq_true_eq] at h
    obtain ⟨⟨⟨rfl, h2⟩, h3⟩, h4⟩ := h
    obtain ⟨q1, q2⟩ := bin_gl F h2
    exact .of rfl (se_len q1 q2 (ix.pp F h4) (hs1 h3))
  · cases h
theorem snd_rlst1 (ix : Snd g C k x) : Snd g C k (.rlst1 x) := sndE (fun _ _ => rfl) (fun _ _ => rfl) (fun _ _ _ => rfl) fun c X Z t a F h => by
  have h : (match (generalizing := false) a with | .Call (.Name n _) [.Call (.Name m _) [l] [] _] [] _ => decide (n = "list") && bin g c "list" && decide (m = "range") && bin g c "range" && nst l && (ok g x).e c false l | _ => false) = true := h
  split at h
  · simp only [Bool.and_eq_true, decide_eq_true_eq] at h
    obtain ⟨⟨⟨⟨⟨rfl, h2⟩, rfl⟩, h3⟩, h4⟩, h5⟩ := h
    obtain ⟨q1, q2⟩ := bin_gl F h2
    obtain ⟨q3, q4⟩ := bin_gl F h3
    exact .of rfl (se_rlst1 F.calm q1 q2 q3 q4 (ix.pe F h5) (nst_hs h4))
  · cases h
theorem snd_rlst2 (ix : Snd g C k x) (iy : Snd g C k y) : Snd g C k (.rlst2 x y) := sndE (fun _ _ => rfl) (fun _ _ => rfl) (fun _ _ _ => rfl) fun c X Z t a F h => by
  have h : (match (generalizing := false) a with | .Call (.Name n _) [.Call (.Name m _) [l, r] [] _] [] _ => decide (n = "list") && bin g c "list" && decide (m = "range") && bin g c "range" && nst l && nst r && (ok g x).e c false l && (ok g y).e c false r | _ => false) = true := h
  split at h
  · simp only [Bool.and_eq_true, decide_eq_true_eq] at h
    obtain ⟨⟨⟨⟨⟨⟨⟨rfl, h2⟩, rfl⟩, h3⟩, h4⟩, h5⟩, h6⟩, h7⟩ := h
    obtain ⟨q1, q2⟩ := bin_gl F h2
    obtain ⟨q3, q4⟩ := bin_gl F h3
    exact .of rfl (se_rlst2 F.calm q1 q2 q3 q4 (ix.pe F h6) (iy.pe F h7) (nst_hs h4) (nst_hs h5))
  · cases h
theorem few {es : List Expr} (h : nss es = true) (hl : es.length < 30) :
    ((backTo pos (starEach es X.env)).all (fun x => !x.1) && (backToKw pos (keywordEach [] X.env)).all (fun x => x.1.isSome) && decide (es.length + ([] : List Keyword).length + (if ([] : List Keyword).isEmpty then 0 else 1) < 30)) = true := by
  have e1 : (backTo pos (starEach es X.env)).all (fun x => !x.1) = true := by
    have := nss_back (X := X) (pos := pos) h
    rw [List.all_eq_true]
    intro p hp
    rw [List.any_eq_false] at this
    have := this p hp
    simpa using this
  rw [e1]
  simp only [Bool.true_and, Bool.and_eq_true, decide_eq_true_eq]
  exact ⟨rfl, by simpa using hl⟩
theorem snd_mth {m : Me} (ix : Snd g C k x) (iy : Snd g C k y) : Snd g C k (.mth m x y) := sndE (fun _ _ => rfl) (fun _ _ => rfl) (fun _ _ _ => rfl) fun c X Z t a F h => by
  have h : (match (generalizing := false) a with | .Call (.Attribute o nm ap) es [] p => decide (nm = meS m) && (ap.endLine == p.line) && ncl o && nss es && decide (es.length < 30) && (ok g x).e c false o && (ok g y).l c es && (!es.isEmpty || isNil y) | _ => false) = true := h
  split at h
  · simp only [Bool.and_eq_true, decide_eq_true_eq] at h
    obtain ⟨⟨⟨⟨⟨⟨⟨rfl, h2⟩, h3⟩, h4⟩, h5⟩, h6⟩, h7⟩, h8⟩ := h
    rename_i o nm ap es p
    refine .of rfl ?_
    cases es with
    | nil =>
      have h8 : isNil y = true := h8
      unfold isNil at h8
      split at h8
      · cases m
        · exact se_mth0 mutSem_append slot_list_append rfl (ix.pp F h6) (ncl_ab h3) h2
        · exact se_mth0 mutSem_pop PySem.F.slot_list_pop rfl (ix.pp F h6) (ncl_ab h3) h2
      · cases h8
    | cons e es =>
      obtain ⟨n1, n2⟩ := nss_cons h4
      cases m
      · exact se_mth1 mutSem_append slot_list_append rfl (ix.pp F h6) (iy.l _ _ _ _ F h7).l (ncl_ab h3) (few h4 h5) h2 (nst_hs n1) (nss_back n2)
      · exact se_mth1 mutSem_pop PySem.F.slot_list_pop rfl (ix.pp F h6) (iy.l _ _ _ _ F h7).l (ncl_ab h3) (few h4 h5) h2 (nst_hs n1) (nss_back n2)
  · cases h
theorem snd_sth {m : Ms} (ix : Snd g C k x) (iy : Snd g C k y) : Snd g C k (.sth m x y) := sndE (fun _ _ => rfl) (fun _ _ => rfl) (fun _ _ _ => rfl) fun c X Z t a F h => by
  have h : (match (generalizing := false) a with | .Call (.Attribute o nm ap) [l] [] p => isOne y && decide (nm = msS m) && (ap.endLine == p.line) && ncl o && nst l && (ok g x).e c false o && (ok g y).l c [l] | _ => false) = true := h
  split at h
  · simp only [Bool.and_eq_true, decide_eq_true_eq] at h
    obtain ⟨⟨⟨⟨⟨⟨h0, rfl⟩, h2⟩, h3⟩, h4⟩, h5⟩, h6⟩ := h
    unfold isOne at h0
    split at h0
    · obtain ⟨ts, j⟩ := (iy.l _ _ _ _ F h6).j
      cases j with
      | cons hb _ =>
        cases m
        exact .of rfl (se_join (ix.pe F h5) hb (hs1 h4) (ncl_ab h3) h2)
    · cases h0
  · cases h
theorem snd_fmt (ix : Snd g C k x) : Snd g C k (.fmt x) := sndE (fun _ _ => rfl) (fun _ _ => rfl) (fun _ _ _ => rfl) fun c X Z t a F h => by
  have h : (match (generalizing := false) a with | .FormattedValue l (-1) none _ => !t && (ok g x).e c false l | _ => false) = true := h
  split at h
  · simp only [Bool.and_eq_true, Bool.not_eq_true'] at h
    exact .no h.1 (se_fmt (ix.pe F h.2))
  · cases h
theorem snd_fstr (ix : Snd g C k x) : Snd g C k (.fstr x) := sndE (fun _ _ => rfl) (fun _ _ => rfl) (fun _ _ _ => rfl) fun c X Z t a F h => by
  have h : (match (generalizing := false) a with | .JoinedStr (e1 :: e2 :: es) _ => !t && (ok g x).l c (e1 :: e2 :: es) | _ => false) = true := h
  split at h
  · simp only [Bool.and_eq_true, Bool.not_eq_true'] at h
    obtain ⟨ts, j⟩ := (ix.l _ _ _ _ F h.2).j
    exact .no h.1 (se_fstr j)
  · cases h
theorem snd_cell (ix : Snd g C k x) : Snd g C k (.cell x) := sndE (fun _ _ => rfl) (fun _ _ => rfl) (fun _ _ _ => rfl) fun c X Z t a F h => by
  have h : (!t && (ok g x).e c false a) = true := h
  simp only [Bool.and_eq_true, Bool.not_eq_true'] at h
  exact .no h.1 (se_cell (ix.pe F h.2))
theorem snd_lset (ix : Snd g C k x) : Snd g C k (.lset x) := sndE (fun _ _ => rfl) (fun _ _ => rfl) (fun _ _ _ => rfl) fun c X Z t a F h => by
  have h : (match (generalizing := false) a with | .Call (.Name n _) [.Call (.Name m _) [l] [] _] [] _ => decide (n = "len") && bin g c "len" && decide (m = "set") && bin g c "set" && nst l && (ok g x).e c false l | _ => false) = true := h
  split at h
  · simp only [Bool.and_eq_true, decide_eq_true_eq] at h
    obtain ⟨⟨⟨⟨⟨rfl, h2⟩, rfl⟩, h3⟩, h4⟩, h5⟩ := h
    obtain ⟨q1, q2⟩ := bin_gl F h2
    obtain ⟨q3, q4⟩ := bin_gl F h3
    exact .of rfl (se_lset q1 q2 q3 q4 (ix.pe F h5) F.calm (hs1 h4))
  · cases h
theorem snd_callv {i : Nat} (ix : Snd g C k x) : Snd g C k (.callv i x) := sndE (fun _ _ => rfl) (fun _ _ => rfl) (fun _ _ _ => rfl) fun c X Z t a F h => by
  have h : (match (generalizing := false) a with | .Call (.Name n _) (e :: es) [] _ => lcl c i n && nss (e :: es) && (ok g x).l c (e :: es) | _ => false) = true := h
  split at h
  · simp only [Bool.and_eq_true] at h
    obtain ⟨⟨h1, h2⟩, h3⟩ := h
    obtain ⟨n1, n2⟩ := nss_cons h2
    exact .of rfl (se_callv F.dfs F.room F.gu (lcl_pe F h1) F.tk (ix.l _ _ _ _ F h3).l (nst_hs n1) (nss_back n2))
  · cases h
theorem noArg_eq {p : Arguments} (h : noArg p = true) : p = ⟨[], [], none, [], [], none, []⟩ := by
  unfold noArg at h
  split at h
  · rfl
  · cases h
theorem snd_lam {w d : Str} {j : Nat} (ix : Snd g C k x) : Snd g C k (.lam w d j x) := sndE (fun _ _ => rfl) (fun _ _ => rfl) (fun _ _ _ => rfl) fun c X Z t a F h => by
  have h : (match (generalizing := false) a with | .Call (.Name n _) [.Lambda params body scope _] [] _ => decide (n = w) && glo c w && decide (w ∈ g.ws.map (·.1)) && decide (c.lam = some d) && LamX.lamSB c.sc scope && noArg params && (ok g x).e ⟨scope, c.N, false, none⟩ false body | _ => false) = true := h
  split at h
  · simp only [Bool.and_eq_true, decide_eq_true_eq] at h
    obtain ⟨⟨⟨⟨⟨⟨rfl, h2⟩, h3⟩, h4⟩, h5⟩, h6⟩, h7⟩ := h
    obtain ⟨q1, q2⟩ := glo_gl F h2
    obtain ⟨⟨n', hs, told⟩, m1, m2⟩ := List.mem_map.mp h3
    cases m2
    obtain ⟨vs, hw, hc, hC⟩ := F.wrd d h4 _ hs told m1
    obtain ⟨room, hq, cc, P, code, B, tk⟩ := F.lam d h4
    have e := noArg_eq h6
    subst e
    refine .of rfl (se_lam q1 hw hc hC B code tk hq room F.gu (LamX.lamS_by (by rw [F.sc]; exact h5)) rfl (fun q cl pm cv ctv => rfl) (fun A outer s H E f c' hgu hr => ix.pe (F.lamb hgu hr) h7) q2)
  · cases h
/-- every expression that is checked is read so -/
theorem sound (g : Gb) (C : Cfg) (k : Nat) : ∀ x : E, Snd g C k x
  | .no => snd_no | .nil => snd_nil | .cons a r => snd_cons (sound g C k a) (sound g C k r) | .yes a => snd_yes (sound g C k a)
  | .cN => snd_cN | .cB _ => snd_cB | .cI _ => snd_cI | .cS _ => snd_cS | .loc _ => snd_loc | .glb _ => snd_glb
  | .typ _ => snd0 (fun _ _ => rfl) (fun _ _ => rfl) (fun _ _ _ => rfl) (fun _ _ _ => rfl)
  | .bin _ a b => snd_bin (sound g C k a) (sound g C k b) | .neg a => snd_neg (sound g C k a)
  | .and a b => snd_and (sound g C k a) (sound g C k b) | .or a b => snd_or (sound g C k a) (sound g C k b) | .not a => snd_not (sound g C k a)
  | .tand a b => snd_tand (sound g C k a) (sound g C k b) | .tor a b => snd_tor (sound g C k a) (sound g C k b) | .tnot a => snd_tnot (sound g C k a) | .tru a => snd_tru (sound g C k a)
  | .cmp _ a b => snd_cmp (sound g C k a) (sound g C k b) | .cmp2 _ _ a b c => snd_cmp2 (sound g C k a) (sound g C k b) (sound g C k c)
  | .isN a => snd_isN (sound g C k a) | .notN a => snd_notN (sound g C k a) | .isi a _ => snd_isi (sound g C k a) | .ite c a b => snd_ite (sound g C k c) (sound g C k a) (sound g C k b)
  | .tup a => snd_tup (sound g C k a) | .lst a => snd_lst (sound g C k a) | .idx a b => snd_idx (sound g C k a) (sound g C k b) | .slc a b c => snd_slc (sound g C k a) (sound g C k b) (sound g C k c)
  | .comp _ e _ s c => snd_comp (sound g C k e) (sound g C k s) (sound g C k c)
  | .comp2 _ _ e _ s c _ s2 c2 => snd_comp2 (sound g C k e) (sound g C k s) (sound g C k c) (sound g C k s2) (sound g C k c2)
  | .itr a => snd_itr (sound g C k a) | .rng1 a => snd_rng1 (sound g C k a) | .rng2 a b => snd_rng2 (sound g C k a) (sound g C k b) | .zip2 a b => snd_zip2 (sound g C k a) (sound g C k b) | .enm a => snd_enm (sound g C k a) | .revd a => snd_revd (sound g C k a)
  | .call _ a => snd_call (sound g C k a) | .blt _ a => snd_blt (sound g C k a) | .len a => snd_len (sound g C k a) | .rlst1 a => snd_rlst1 (sound g C k a) | .rlst2 a b => snd_rlst2 (sound g C k a) (sound g C k b)
  | .mth _ a b => snd_mth (sound g C k a) (sound g C k b)
  | .sth _ a b => snd_sth (sound g C k a) (sound g C k b)
  | .fmt a => snd_fmt (sound g C k a) | .fstr a => snd_fstr (sound g C k a) | .cell a => snd_cell (sound g C k a)
  | .lset a => snd_lset (sound g C k a) | .callv _ a => snd_callv (sound g C k a) | .lam _ _ _ a => snd_lam (sound g C k a)
end
end Pi

set_option Elab.async false
set_option linter.all false
set_option maxRecDepth 100000
set_option maxHeartbeats 1000000
/-! PiSChk: statements checked; defs out of a table. -/
namespace Pi
open PySem L2
structure OkS where
  s : Stmt → Bool := fun _ => false
  l : List Stmt → Bool := fun _ => false
def isComp : Expr → Bool
  | .ListComp .. => true | .SetComp .. => true | .DictComp .. => true
  | _ => false
def isTupE : Expr → Bool
  | .Tuple .. => true
  | _ => false
def isNm : T → Bool
  | .nm _ => true
  | _ => false
/-- a list of a block, stored in a name of the same line -/
def swp (c : Ct) (n : Str) (p : Pos) : Expr → Bool
  | .ListComp _ _ scope q => decide (c.sc.kind = .function) && decide (c.sc.names.lookup n = some .local) && (p.line == q.line) && !(scope.names.any fun (m, k) => m == n && (k == .local || k == .cell))
  | _ => false
def nsw (c : Ct) (n : Str) (p : Pos) : Expr → Bool
  | .ListComp _ _ _ q => !(p.line == q.line)
  | .SetComp .. => false
  | .DictComp .. => false
  | _ => true
def isCompE : E → Bool
  | .comp .. => true
  | .comp2 .. => true
  | _ => false
def parOk (c : Ct) (ts vs : List Expr) (line : Nat) : Bool := (vs.all fun v => nst v) && !(vs.all (foldedForSure 8)) && !(vs.all (constantsAlone 8))
def namesT (c : Ct) : List Expr → List Nat → Bool
  | [], [] => true
  | .Name n _ :: es, i :: is => tgt c i n && namesT c es is
  | _, _ => false
def swN (c : Ct) (ts vs : List Expr) : Bool := (ts.any fun t => match t with
  | .Name n _ => !decide (c.sc.names.lookup n = some .local)
  | _ => true) || vs.all (foldedForSure 8)
def parT (g : Gb) (c : Ct) (is : List Nat) (as : E) : Stmt → Bool
  | .Assign [.Tuple ts _ _] (.Tuple es _ _) _ => namesT c ts is && swN c ts es && decide (is.length ≤ 100) && (ok g as).l c es
  | _ => false
def okS (g : Gb) (c : Ct) : S → OkS
  | .skip => { s := fun s => match s with | .Pass _ => true | .Expr (.Constant (.str _) _ _) _ => true | _ => false, l := fun l => l.isEmpty }
  | .seq a b => { l := fun l => match l with | s :: r => (okS g c a).s s && (okS g c b).l r | [] => false }
  | .set t e => { s := fun s => match s with
      | .Assign [.Name n p] v _ => (match t with | .nm i => tgt c i n && (ok g e).e c false v && (nsw c n p v || (swp c n p v && isCompE e)) | _ => false)
      | .Assign [tg] v _ => !isNm t && (okG c t).e tg && nst tg && (ok g e).e c false v && !isTupE v
      | _ => false }
  | .par ts as => { s := fun s => parT g c ts as s || match s, ts with
      | .Assign [.Tuple [.Name n p, .Name m q] _ _] (.Tuple [a, b] _ _) _, [i, j] => (ok g as).l c [a, b] && decide (c.N[i]? = some n) && decide (c.N[j]? = some m) && decide (i ≠ j) && decide (c.sc.names.lookup n = some .local) && decide (c.sc.names.lookup m = some .local) &&
          decide (n ≠ m) && (p.line == q.line) && decide (c.sc.kind = .function) && parOk c [] [a, b] 0
      | .Assign [.Tuple [.Name n p, .Name m q, .Name o r] _ _] (.Tuple [a, b, d] _ _) _, [i, j, l] => (ok g as).l c [a, b, d] && decide (c.N[i]? = some n) && decide (c.N[j]? = some m) && decide (c.N[l]? = some o) && decide (i ≠ j) && decide (i ≠ l) && decide (j ≠ l) &&
          decide (c.sc.names.lookup n = some .local) && decide (c.sc.names.lookup m = some .local) && decide (c.sc.names.lookup o = some .local) && decide (n ≠ m) && decide (n ≠ o) && decide (m ≠ o) && (p.line == q.line) && (p.line == r.line) && decide (c.sc.kind = .function) && parOk c [] [a, b, d] 0
      | _, _ => false }
  | .put o i e => { s := fun s => match s with | .Assign [.Subscript l j _] v _ => nsl j && (ok g o).e c false l && (ok g i).e c false j && (ok g e).e c false v && !isComp v | _ => false }
  | .aug i o e => { s := fun s => match s with | .AugAssign (.Name n _) o' v _ => decide (o = o') && (decide (o = .Add) || decide (o = .Sub)) && tgt c i n && (ok g e).e c false v | _ => false }
  | .ret e => { s := fun s => match s with | .Return (some v) _ => (ok g e).e c false v | _ => false }
  | .retN => { s := fun s => match s with | .Return none _ => true | _ => false }
  | .ite q a b => { s := fun s => match s with | .If l A B _ => (ok g q).e c true l && (okS g c a).l A && (okS g c b).l B | _ => false }
  | .whl q b => { s := fun s => match s with | .While l B [] _ => (ok g q).e c true l && (okS g c b).l B | _ => false }
  | .for t src b => { s := fun s => match s with | .For tg it B [] _ => (ok g src).i c tg it && (okG c t).e tg && nse it && (okS g c b).l B | _ => false }
  | .exp .no => { s := fun _ => true }
  | .exp e => { s := fun s => match s with | .Expr v _ => (ok g e).e c false v && !isComp v | _ => false }
  | .brk => { s := fun s => match s with | .Break _ => true | _ => false }
  | .cnt => { s := fun s => match s with | .Continue _ => true | _ => false }
  | .raise x => { s := fun s => match s with | .Raise (some (.Call (.Name n _) [] [] _)) none _ => decide (n = x) && glo c x && decide (x ∈ g.cx.map (·.1)) | _ => false }
section
variable {g : Gb} {C : Cfg} {k : Nat} {c : Ct} {X : Cx} {Z : WX} {a b : Expr} {es : List Expr} {x y z : E} {pos : Pos} {t : Bool}
/-- where statements run -/
structure FitS (g : Gb) (C : Cfg) (k : Nat) (c : Ct) (X : Cx) (Z : WX) : Prop where
  f : Fits g C k c X Z
  own : PassesOwn (model X.prog X.w) X.A X.env X.xe
structure SndS (g : Gb) (C : Cfg) (k : Nat) (u : S) : Prop where
  s : ∀ c X Z s, FitS g C k c X Z → (okS g c u).s s = true → PS X s (rdS X Z C u)
  l : ∀ c X Z l, FitS g C k c X Z → (okS g c u).l l = true → PSs X l (rdS X Z C u)
theorem nc_sw {line : Nat} {tg : Option Expr} (h : isComp a = false) (env : Env) : swapsWith a tg line env = pure false := by
  cases a <;> first | rfl | cases h
theorem nsw_sw {n : Str} {p : Pos} {line : Nat} (h : nsw c n p a = true) (env : Env) : swapsWith a (some (.Name n p)) line env = pure false := by
  cases a <;> first | rfl | (cases h; done) | skip
  rename_i e gs sc q
  have h : (!(p.line == q.line)) = true := h
  have h : (p.line == q.line) = false := by simpa using h
  unfold swapsWith
  show (pure (env.blockKind == .function && env.kindOf n == some .local && p.line == (Expr.ListComp e gs sc q).pos.line && !(sc.names.any fun (m, k) => m == n && (k == .local || k == .cell))) : Sem Bool) = _
  rw [show (p.line == (Expr.ListComp e gs sc q).pos.line) = false from h]
  simp
theorem snd_skip : SndS g C k .skip where
  s := fun c X Z s F h => by
    replace h : (match (generalizing := false) s with | .Pass _ => true | .Expr (.Constant (.str _) _ _) _ => true | _ => false) = true := h
    split at h
    · exact ss_pass
    · exact ss_doc
    · cases h
  l := fun c X Z l F h => by
    cases l with
    | nil => exact ss_nil
    | cons => exact nom h
theorem sndS {u : S} (l : ∀ c l, (okS g c u).l l = false) (s : ∀ c X Z s, FitS g C k c X Z → (okS g c u).s s = true → PS X s (rdS X Z C u)) : SndS g C k u := ⟨s, fun c X Z l' _ h => by rw [l] at h; cases h⟩
theorem snd_seq {u v : S} (iu : SndS g C k u) (iv : SndS g C k v) : SndS g C k (.seq u v) where
  s := fun c X Z s F h => nom h
  l := fun c X Z l F h => by
    cases l with
    | nil => exact nom h
    | cons s r =>
      have h : ((okS g c u).s s && (okS g c v).l r) = true := h
      simp only [Bool.and_eq_true] at h
      exact ss_seq (iu.s _ _ _ _ F h.1) (iv.l _ _ _ _ F h.2)
theorem snd_setN {i : Nat} {n : Str} {p : Pos} (F : FitS g C k c X Z) (h1 : tgt c i n = true) (h2 : (ok g x).e c false a = true) (h3 : (nsw c n p a || (swp c n p a && isCompE x)) = true) : PS X (.Assign [.Name n p] a pos) (rdS X Z C (.set (.nm i) x)) := by
  obtain ⟨q1, q2, q3⟩ := tgt_ok F.f h1
  rw [Bool.or_eq_true] at h3
  rcases h3 with h3 | h3
  · exact ss_setN F.f.nd q1 q2 ((sound g C k x).pe F.f h2) (nsw_sw h3 _) q3
  · rw [Bool.and_eq_true] at h3
    obtain ⟨h3, h4⟩ := h3
    unfold isCompE at h4
    split at h4
    · obtain ⟨_, elt, tg, iter, ifs, scope, q, rfl, P⟩ := comp_chk (sound g C k _) (sound g C k _) (sound g C k _) F.f h2
      have h3 : (decide (c.sc.kind = .function) && decide (c.sc.names.lookup n = some .local) && (p.line == q.line) && !(scope.names.any fun (m, k) => m == n && (k == .local || k == .cell))) = true := h3
      simp only [Bool.and_eq_true, decide_eq_true_eq, Bool.not_eq_true'] at h3
      obtain ⟨⟨⟨k1, k2⟩, k3⟩, k4⟩ := h3
      have ll : X.env.scope.names.lookup n = some .local := by rw [F.f.sc]; exact k2
      have kk : X.env.scope.kind = .function := by rw [F.f.sc]; exact k1
      have key := (se_comp (pos := q) F.f.calm F.f.nd P.blk P.sl P.hi P.hg P.htt P.ht P.he P.hs).1
      refine psMono (ps_setLc (te := rdV X Z0 C _) F.f.calm F.f.nd q1 ll (sw_true kk ll k3 k4) P.hi P.blk P.hg P.ht (fun s H Ca cl fp => se_val (P.he s H Ca cl fp)) P.hs) fun D σ H q => ?_
      rw [own_map] at key ⊢
      exact set_rd key q
    · obtain ⟨_, elt, tg, iter, ifs, tg1, iter1, ifs1, scope, q, rfl, P⟩ := comp2_chk (sound g C k _) (sound g C k _) (sound g C k _) (sound g C k _) (sound g C k _) F.f h2
      have h3 : (decide (c.sc.kind = .function) && decide (c.sc.names.lookup n = some .local) && (p.line == q.line) && !(scope.names.any fun (m, k) => m == n && (k == .local || k == .cell))) = true := h3
      simp only [Bool.and_eq_true, decide_eq_true_eq, Bool.not_eq_true'] at h3
      obtain ⟨⟨⟨k1, k2⟩, k3⟩, k4⟩ := h3
      have ll : X.env.scope.names.lookup n = some .local := by rw [F.f.sc]; exact k2
      have kk : X.env.scope.kind = .function := by rw [F.f.sc]; exact k1
      have key := (se_comp2 (pos := q) F.f.calm F.f.nd P.p.blk P.p.sl P.hv P.sl1 P.p.hi P.p.hg P.p.htt P.htt1 P.p.ht P.p.he P.p.hs P.hi1 P.hg1 P.ht1 P.hs1).1
      refine psMono (ps_setLc2 (te := rdV X Z0 C _) F.f.calm F.f.nd q1 ll (sw_true kk ll k3 k4) P.p.hi P.p.blk P.hv P.p.hg P.p.ht P.hi1 P.hg1 P.ht1 (fun s H Ca cl fp => se_val (P.p.he s H Ca cl fp)) P.p.hs P.hs1) fun D σ H q => ?_
      rw [own_map] at key ⊢
      exact set_rd key q
    · cases h4
theorem nst_one (h : nst a = true) : (assignEach [a] X.env).map (·.2) = [assign a X.env] := by rw [nst_as h]; rfl
theorem nt_sw {tg : Expr} (h : isTupE a = false) (env : Env) : swappedStores [tg] a env = pure none := by
  cases a <;> first | (cases h; done) | (cases tg <;> rfl)
theorem set_sw {tg : Expr} (ht : ∀ n p, tg ≠ .Name n p) {line : Nat} (env : Env) : swapsWithSole [tg] a line env = pure false := by
  show swapsWith a (some tg) line env = pure false
  cases a <;> first | rfl | (cases tg <;> first | rfl | exact absurd rfl (ht _ _))

theorem snd_set {tt : T} : SndS g C k (.set tt x) := sndS (fun _ _ => rfl) fun c X Z s F h => by
  replace h : (match (generalizing := false) s with
      | .Assign [.Name n p] v _ => (match (generalizing := false) tt with | .nm i => tgt c i n && (ok g x).e c false v && (nsw c n p v || (swp c n p v && isCompE x)) | _ => false)
      | .Assign [tg] v _ => !isNm tt && (okG c tt).e tg && nst tg && (ok g x).e c false v && !isTupE v
      | _ => false) = true := h
  split at h
  · split at h
    · simp only [Bool.and_eq_true] at h
      exact snd_setN F h.1.1 h.1.2 h.2
    · cases h
  · rename_i tg v p hn
    simp only [Bool.and_eq_true, Bool.not_eq_true'] at h
    obtain ⟨⟨⟨⟨h1, h2⟩, h3⟩, h4⟩, h5⟩ := h
    exact ss_setT ((sound g C k x).pe F.f h4) ((okG_sound F.f tt).1 tg h2) (fun i e => by rw [e] at h1; cases h1) (set_sw (fun n q e => hn n q e) _) (nt_sw h5 _) (nst_one h3)
  · cases h
theorem eraseDups2 {n m : Str} (h : n ≠ m) : ([n, m] : List Str).eraseDups.length = 2 := by
  have : (n == m) = false := by simpa using h
  have : (m == n) = false := by simpa using Ne.symm h
  simp [List.eraseDups_cons, *]
theorem eraseDups3 {n m o : Str} (h : n ≠ m) (h2 : n ≠ o) (h3 : m ≠ o) : ([n, m, o] : List Str).eraseDups.length = 3 := by
  have : (m == n) = false := by simpa using Ne.symm h
  have : (o == n) = false := by simpa using Ne.symm h2
  have : (o == m) = false := by simpa using Ne.symm h3
  simp [List.eraseDups_cons, *]
theorem nst_st (h : nst a = true) (q : Expr → Bool) (hq : ∀ e, q e = true → ∃ u p, e = .Starred u p) : q a = false := by
  cases e : q a with
  | false => rfl
  | true =>
    obtain ⟨u, p, rfl⟩ := hq a e
    cases h
theorem blk_fn {env : Env} (h : env.scope.kind = .function) : env.blockKind = .function := by unfold Env.blockKind; rw [h]; rfl
theorem par_sw2 {n m : Str} {px py pt pt2 : Pos} {kt k2 : Nat} {env : Env} (hk : env.scope.kind = .function) (hn : env.scope.names.lookup n = some .local) (hm : env.scope.names.lookup m = some .local) (hd : n ≠ m) (hl : (px.line == py.line) = true) (hp : parOk c [] [a, b] 0 = true) :
    swappedStores [.Tuple [.Name n px, .Name m py] kt pt] (.Tuple [a, b] k2 pt2) env = pure (some [n, m]) := by
  unfold parOk at hp
  simp only [Bool.and_eq_true, Bool.not_eq_true'] at hp
  obtain ⟨⟨h1, h2⟩, h3⟩ := hp
  have e1 : env.kindOf n = some .local := hn
  have e2 : env.kindOf m = some .local := hm
  have e3 := blk_fn hk
  have e4 : py.line = px.line := by simpa using (beq_iff_eq.mp hl).symm
  unfold swappedStores
  simp only [e1, e2, e3, e4, h2, h3, Expr.pos, List.length_cons, List.length_nil, List.head?_cons, Option.map_some, Option.getD_some, List.filterMap_cons, List.filterMap_nil, beq_self_eq_true, Bool.and_self, if_true, eraseDups2 hd]
  have hst : ∀ q : Expr → Bool, (∀ e, q e = true → ∃ u p, e = .Starred u p) → ([a, b].any q) = false := fun q hq => by
    simp only [List.all_cons, List.all_nil, Bool.and_true, Bool.and_eq_true] at h1
    simp only [List.any_cons, List.any_nil, nst_st h1.1 q hq, nst_st h1.2 q hq, Bool.or_false]
  rw [if_neg (by decide), hst _ (fun e he => by cases e <;> first | exact ⟨_, _, rfl⟩ | cases he)]
  rfl
theorem par_sw3 {n m o : Str} {px py pz pt pt2 : Pos} {d : Expr} {kt k2 : Nat} {env : Env} (hk : env.scope.kind = .function) (hn : env.scope.names.lookup n = some .local) (hm : env.scope.names.lookup m = some .local) (ho : env.scope.names.lookup o = some .local) (hd : n ≠ m) (hd2 : n ≠ o) (hd3 : m ≠ o)
    (hl : (px.line == py.line) = true) (hl2 : (px.line == pz.line) = true) (hp : parOk c [] [a, b, d] 0 = true) :
    swappedStores [.Tuple [.Name n px, .Name m py, .Name o pz] kt pt] (.Tuple [a, b, d] k2 pt2) env = pure (some [n, m, o]) := by
  unfold parOk at hp
  simp only [Bool.and_eq_true, Bool.not_eq_true'] at hp
  obtain ⟨⟨h1, h2⟩, h3⟩ := hp
  have e1 : env.kindOf n = some .local := hn
  have e2 : env.kindOf m = some .local := hm
  have e5 : env.kindOf o = some .local := ho
  have e3 := blk_fn hk
  have e4 : py.line = px.line := by simpa using (beq_iff_eq.mp hl).symm
  have e6 : pz.line = px.line := by simpa using (beq_iff_eq.mp hl2).symm
  unfold swappedStores
  simp only [e1, e2, e3, e4, e5, e6, h2, h3, Expr.pos, List.length_cons, List.length_nil, List.head?_cons, Option.map_some, Option.getD_some, List.filterMap_cons, List.filterMap_nil, beq_self_eq_true, Bool.and_self, if_true, eraseDups3 hd hd2 hd3]
  have hst : ∀ q : Expr → Bool, (∀ e, q e = true → ∃ u p, e = .Starred u p) → ([a, b, d].any q) = false := fun q hq => by
    simp only [List.all_cons, List.all_nil, Bool.and_true, Bool.and_eq_true] at h1
    simp only [List.any_cons, List.any_nil, nst_st h1.1 q hq, nst_st h1.2.1 q hq, nst_st h1.2.2 q hq, Bool.or_false]
  rw [if_neg (by decide), hst _ (fun e he => by cases e <;> first | exact ⟨_, _, rfl⟩ | cases he)]
  rfl
theorem namesT_ok (F : FitS g C k c X Z) : ∀ {ts : List Expr} {is : List Nat}, namesT c ts is = true → PGs X ts (gNames is) ∧ nss ts = true ∧ ts.length = is.length
  | [], [], _ => ⟨pgs_nil, rfl, rfl⟩
  | .Name n p :: es, i :: is, h => by
    have h : (tgt c i n && namesT c es is) = true := h
    simp only [Bool.and_eq_true] at h
    obtain ⟨q1, q2, q3⟩ := tgt_ok F.f h.1
    obtain ⟨r1, r2, r3⟩ := namesT_ok F h.2
    exact ⟨pgs_cons (pg_name F.f.nd q1 q2 q3) r1 (by rw [nst_as rfl]; rfl), by unfold nss at r2 ⊢; rw [List.all_cons, r2]; rfl, by rw [List.length_cons, List.length_cons, r3]⟩
  | [], _ :: _, h => nomatch h
theorem filterMap_short {α β : Type} {f : α → Option β} : ∀ {l : List α}, (l.any fun a => (f a).isNone) = true → (l.filterMap f).length < l.length
  | a :: l, h => by
    rw [List.any_cons, Bool.or_eq_true] at h
    rw [List.length_cons]
    cases e : f a with
    | none =>
      rw [List.filterMap_cons_none e]
      exact Nat.lt_succ_of_le (List.length_filterMap_le _ _)
    | some b =>
      rw [List.filterMap_cons_some e, List.length_cons]
      rw [e] at h
      exact Nat.succ_lt_succ (filterMap_short (h.elim (fun z => nomatch z) id))
theorem swN_ok {ts vs : List Expr} {kt k2 : Nat} {p1 p2 : Pos} {env : Env} (hs : env.scope = c.sc) (h : swN c ts vs = true) : swappedStores [.Tuple ts kt p1] (.Tuple vs k2 p2) env = pure none := by
  unfold swappedStores
  simp only []
  split
  · rfl
  split
  · rfl
  split
  · rfl
  rename_i h1 h2 h3
  unfold swN at h
  rw [Bool.or_eq_true] at h
  rcases h with h | h
  · refine absurd ?_ h3
    simp only [Bool.or_eq_true, bne_iff_ne]
    refine .inl (Nat.ne_of_lt (filterMap_short ?_))
    rw [List.any_eq_true] at h ⊢
    obtain ⟨t, ht, q⟩ := h
    refine ⟨t, ht, ?_⟩
    cases t <;> first | rfl | skip
    rename_i n p
    have q : (!decide (c.sc.names.lookup n = some .local)) = true := q
    have q : ¬ c.sc.names.lookup n = some .local := by simpa using q
    have e : (env.kindOf n == some .local) = false := by
      rw [beq_eq_false_iff_ne]
      unfold Env.kindOf
      rw [hs]; exact q
    simp only [e, Bool.false_and, Bool.false_eq_true, if_false]
    rfl
  · rw [if_pos h]
theorem snd_par {ts : List Nat} : SndS g C k (.par ts x) := sndS (fun _ _ => rfl) fun c X Z s F h => by
  replace h : (parT g c ts x s || match (generalizing := false) s, ts with
      | .Assign [.Tuple [.Name n p, .Name m q] _ _] (.Tuple [a, b] _ _) _, [i, j] => (ok g x).l c [a, b] && decide (c.N[i]? = some n) && decide (c.N[j]? = some m) && decide (i ≠ j) && decide (c.sc.names.lookup n = some .local) && decide (c.sc.names.lookup m = some .local) &&
          decide (n ≠ m) && (p.line == q.line) && decide (c.sc.kind = .function) && parOk c [] [a, b] 0
      | .Assign [.Tuple [.Name n p, .Name m q, .Name o r] _ _] (.Tuple [a, b, d] _ _) _, [i, j, l] => (ok g x).l c [a, b, d] && decide (c.N[i]? = some n) && decide (c.N[j]? = some m) && decide (c.N[l]? = some o) && decide (i ≠ j) && decide (i ≠ l) && decide (j ≠ l) &&
          decide (c.sc.names.lookup n = some .local) && decide (c.sc.names.lookup m = some .local) && decide (c.sc.names.lookup o = some .local) && decide (n ≠ m) && decide (n ≠ o) && decide (m ≠ o) && (p.line == q.line) && (p.line == r.line) && decide (c.sc.kind = .function) && parOk c [] [a, b, d] 0
      | _, _ => false) = true := h
  rw [Bool.or_eq_true] at h
  rcases h with h | h
  · unfold parT at h
    split at h
    · simp only [Bool.and_eq_true, decide_eq_true_eq] at h
      obtain ⟨⟨⟨h1, h2⟩, h3⟩, h4⟩ := h
      obtain ⟨q1, q2, q3⟩ := namesT_ok F h1
      obtain ⟨l1, l2⟩ := nss_as (X := X) q2
      exact ss_parT F.f.calm h3 q3 ((sound g C k x).l _ _ _ _ F.f h4).r q1 l1 l2 (swN_ok F.f.sc h2)
    · cases h
  split at h
  · simp only [Bool.and_eq_true, decide_eq_true_eq] at h
    obtain ⟨⟨⟨⟨⟨⟨⟨⟨⟨h1, h2⟩, h3⟩, h4⟩, h5⟩, h6⟩, h7⟩, h8⟩, h9⟩, h10⟩ := h
    rw [← F.f.N] at h2 h3
    rw [← F.f.sc] at h5 h6 h9
    exact ss_par2 F.f.calm F.f.nd h2 h3 h4 h5 h6 ((sound g C k x).l _ _ _ _ F.f h1).r (par_sw2 h9 h5 h6 h7 h8 h10) rfl
  · simp only [Bool.and_eq_true, decide_eq_true_eq] at h
    obtain ⟨⟨⟨⟨⟨⟨⟨⟨⟨⟨⟨⟨⟨⟨⟨⟨h1, h2⟩, h3⟩, h4⟩, h5⟩, h6⟩, h7⟩, h8⟩, h9⟩, h10⟩, h11⟩, h12⟩, h13⟩, h14⟩, h15⟩, h16⟩, h17⟩ := h
    rw [← F.f.N] at h2 h3 h4
    rw [← F.f.sc] at h8 h9 h10 h16
    exact ss_par3 F.f.calm F.f.nd h2 h3 h4 h5 h6 h7 h8 h9 h10 ((sound g C k x).l _ _ _ _ F.f h1).r (par_sw3 h16 h8 h9 h10 h11 h12 h13 h14 h15 h17) rfl
  · cases h
theorem snd_put : SndS g C k (.put x y z) := sndS (fun _ _ => rfl) fun c X Z s F h => by
  replace h : (match (generalizing := false) s with | .Assign [.Subscript l j _] v _ => nsl j && (ok g x).e c false l && (ok g y).e c false j && (ok g z).e c false v && !isComp v | _ => false) = true := h
  split at h
  · rename_i l j p v p2
    simp only [Bool.and_eq_true, Bool.not_eq_true'] at h
    obtain ⟨⟨⟨⟨h1, h2⟩, h3⟩, h4⟩, h5⟩ := h
    refine ss_put ((sound g C k x).pp F.f h2) ((sound g C k y).pe F.f h3) ((sound g C k z).pe F.f h4) (fun v => ?_) (set_sw (tg := .Subscript l j p) (fun _ _ e => by cases e) _) ?_ rfl
    · cases j <;> first | rfl | (cases h1; done)
    · cases v <;> rfl
  · cases h
theorem snd_aug {i : Nat} {o : Operator} : SndS g C k (.aug i o x) := sndS (fun _ _ => rfl) fun c X Z s F h => by
  replace h : (match (generalizing := false) s with | .AugAssign (.Name n _) o' v _ => decide (o = o') && (decide (o = .Add) || decide (o = .Sub)) && tgt c i n && (ok g x).e c false v | _ => false) = true := h
  split at h
  · simp only [Bool.and_eq_true, Bool.or_eq_true, decide_eq_true_eq] at h
    obtain ⟨⟨⟨rfl, h2⟩, h3⟩, h4⟩ := h
    obtain ⟨q1, q2, q3⟩ := tgt_ok F.f h3
    exact ss_aug F.f.nd q1 q2 ((sound g C k x).pe F.f h4) h2 q3
  · cases h
theorem snd_ret : SndS g C k (.ret x) := sndS (fun _ _ => rfl) fun c X Z s F h => by
  replace h : (match (generalizing := false) s with | .Return (some v) _ => (ok g x).e c false v | _ => false) = true := h
  split at h
  · exact ss_ret ((sound g C k x).pe F.f h) (Snd.hv F.f h)
  · cases h
theorem snd_retN : SndS g C k .retN := sndS (fun _ _ => rfl) fun c X Z s F h => by
  replace h : (match (generalizing := false) s with | .Return none _ => true | _ => false) = true := h
  split at h
  · exact ss_retN
  · cases h
theorem snd_iteS {u v : S} (iu : SndS g C k u) (iv : SndS g C k v) : SndS g C k (.ite x u v) := sndS (fun _ _ => rfl) fun c X Z s F h => by
  replace h : (match (generalizing := false) s with | .If l A B _ => (ok g x).e c true l && (okS g c u).l A && (okS g c v).l B | _ => false) = true := h
  split at h
  · simp only [Bool.and_eq_true] at h
    exact ss_ite ((sound g C k x).pt F.f h.1.1) (iu.l _ _ _ _ F h.1.2) (iv.l _ _ _ _ F h.2)
  · cases h
theorem snd_whl {u : S} (iu : SndS g C k u) : SndS g C k (.whl x u) := sndS (fun _ _ => rfl) fun c X Z s F h => by
  replace h : (match (generalizing := false) s with | .While l B [] _ => (ok g x).e c true l && (okS g c u).l B | _ => false) = true := h
  split at h
  · simp only [Bool.and_eq_true] at h
    exact ss_whl F.own ((sound g C k x).pt F.f h.1) (iu.l _ _ _ _ F h.2)
  · cases h
theorem snd_for {tt : T} {u : S} (iu : SndS g C k u) : SndS g C k (.for tt x u) := sndS (fun _ _ => rfl) fun c X Z s F h => by
  replace h : (match (generalizing := false) s with | .For tg it B [] _ => (ok g x).i c tg it && (okG c tt).e tg && nse it && (okS g c u).l B | _ => false) = true := h
  split at h
  · simp only [Bool.and_eq_true] at h
    obtain ⟨⟨⟨h1, h2⟩, h3⟩, h4⟩ := h
    exact ss_for F.own F.f.calm ((sound g C k x).i _ _ _ _ _ F.f h1) ((okG_sound F.f tt).1 _ h2) (iu.l _ _ _ _ F h4) (nse_fs h3 _)
  · cases h
theorem snd_exp : SndS g C k (.exp x) := by
  by_cases hx : x = .no
  · subst hx
    exact ⟨fun c X Z s F h => ⟨fun pins s' σ H D I q => by
      obtain ⟨w, st, rel, p⟩ := q
      exact p.elim⟩, fun c X Z l F h => nom h⟩
  · have e : ∀ c, okS g c (.exp x) = { s := fun s => match s with | .Expr v _ => (ok g x).e c false v && !isComp v | _ => false } := by
      intro c
      cases x <;> first | rfl | exact absurd rfl hx
    refine sndS (fun c l => by rw [e]) fun c X Z s F h => ?_
    rw [e] at h
    replace h : (match (generalizing := false) s with | .Expr v _ => (ok g x).e c false v && !isComp v | _ => false) = true := h
    split at h
    · simp only [Bool.and_eq_true, Bool.not_eq_true'] at h
      exact ss_exp ((sound g C k x).pe F.f h.1) (nc_sw h.2 _)
    · cases h
theorem snd_brk : SndS g C k .brk := sndS (fun _ _ => rfl) fun c X Z s F h => by
  replace h : (match (generalizing := false) s with | .Break _ => true | _ => false) = true := h
  split at h
  · exact ss_brk
  · cases h
theorem snd_cnt : SndS g C k .cnt := sndS (fun _ _ => rfl) fun c X Z s F h => by
  replace h : (match (generalizing := false) s with | .Continue _ => true | _ => false) = true := h
  split at h
  · exact ss_cnt
  · cases h
theorem snd_raise {n : Str} : SndS g C k (.raise n) := sndS (fun _ _ => rfl) fun c X Z s F h => by
  replace h : (match (generalizing := false) s with | .Raise (some (.Call (.Name m _) [] [] _)) none _ => decide (m = n) && glo c n && decide (n ∈ g.cx.map (·.1)) | _ => false) = true := h
  split at h
  · simp only [Bool.and_eq_true, decide_eq_true_eq] at h
    obtain ⟨⟨rfl, h2⟩, h3⟩ := h
    obtain ⟨q1, q2⟩ := glo_gl F.f h2
    exact ss_raise (F.f.exc _ h3) F.f.calm F.f.tk q1 q2
  · cases h
/-- every statement that is checked is read so -/
theorem soundS (g : Gb) (C : Cfg) (k : Nat) : ∀ u : S, SndS g C k u
  | .skip => snd_skip | .seq a b => snd_seq (soundS g C k a) (soundS g C k b) | .set _ _ => snd_set | .par _ _ => snd_par | .put _ _ _ => snd_put | .aug _ _ _ => snd_aug
  | .ret _ => snd_ret | .retN => snd_retN | .ite _ a b => snd_iteS (soundS g C k a) (soundS g C k b) | .whl _ b => snd_whl (soundS g C k b) | .for _ _ b => snd_for (soundS g C k b)
  | .exp _ => snd_exp | .brk => snd_brk | .cnt => snd_cnt | .raise _ => snd_raise
end
end Pi

set_option Elab.async false
set_option linter.all false
set_option maxRecDepth 100000
set_option maxHeartbeats 1000000
/-! PiEnd: a module's table of defs, and the law's end. -/
namespace Pi
open PySem L2 PySem.Spec PyProof.Rows
/-- a def of the text: its name, the statement, the parameters, the slots' names, what we read it as -/
structure Ent where
  name : Str
  st : Stmt
  ps : List Str
  N : List Str
  fn : Fn
  /-- whether lambdas are made in it -/
  lam : Bool := false
def tbl (tb : List Ent) (n : Str) : Option Fn := (tb.find? fun e => e.name == n).map (·.fn)
/-- a def that tells: its name, the statement, its parameter, the slots' names, the clauses, the word of no error -/
structure Wnt where
  name : Str
  st : Stmt
  a : Str
  N : List Str
  hs : List (Str × Str)
  told : Str
/-- a module: defs, constants, defs that tell, the classes of what is raised -/
structure Md where
  tb : List Ent
  cs : List (Str × D)
  ws : List Wnt := []
  cx : List (Str × List Str) := []
def wrds (M : Md) (n : Str) (x : Option Xc) : Option D := ((M.ws.find? fun e => e.name == n)).bind fun e => wrdOf M.cx e.hs e.told x
/-- the module's meaning, by how many calls may lie within one another -/
noncomputable def cfg (M : Md) : Nat → Cfg
  | 0 => ⟨fun _ _ _ => none, fun n => M.cs.lookup n, wrds M, fun _ => false⟩
  | k + 1 => ⟨fun n ds sto => match tbl M.tb n with
    | none => none
    | some f => f.run (cfg M k) ds sto, fun n => M.cs.lookup n, wrds M, fun n => (tbl M.tb n).isSome⟩
def chkE (g : Gb) (e : Ent) : Bool := C8.scC e.N e.ps (L2.defScope e.st) && decide (e.fn.nps = e.ps.length) && decide (e.fn.nsl = e.N.length) && (okS g ⟨L2.defScope e.st, e.N, true, if e.lam then some e.name else none⟩ e.fn.body).l (L2.defBody e.st)
/-- the clauses of a def that tells -/
def chkH (sc : Scope) : List ExceptHandler → List (Str × Str) → Bool
  | [], [] => true
  | .ExceptHandler (some (.Name n _)) none [.Return (some (.Constant (.str y) _ _)) _] _ :: r, (m, z) :: q => decide (n = m) && decide (y = z) && decide (sc.names.lookup n = some .globalImplicit) && !(n == ("__debug__" : Str)) && chkH sc r q
  | _, _ => false
def chkB (e : Wnt) (sc : Scope) : List Stmt → Bool
  | [.Try [.Expr (.Call (.Name a _) [] [] _) _] (h :: r) [] [] _, .Return (some (.Constant (.str t) _ _)) _] => decide (a = e.a) && decide (t = e.told) && chkH sc (h :: r) e.hs
  | _ => false
def chkW (e : Wnt) : Bool := C8.scC e.N [e.a] (L2.defScope e.st) && decide (e.N[0]? = some e.a) && (match (L2.defScope e.st).names.lookup e.a with | some .local => true | some .cell => true | some .free => true | _ => false) &&
  !(e.a == ("__debug__" : Str)) && !(e.a == ("__classdict__" : Str)) && chkB e (L2.defScope e.st) (L2.defBody e.st)
/-- what stands at f behind the top -/
structure FRow (K : PySem.W.Frag) (mg : Str → Option Value) (e : Ent) (f : Addr) (fd : FuncData) : Prop where
  mg : mg e.name = some (.ref f)
  fn : L2.Fun K e.name e.name e.st f fd
  bd : Binds K fd e.ps []
  lam : e.lam = true → ∃ c P, fd.code = .ref c ∧ PySem.W.tabIn K e.name = some (c, P)
/-- a def as it stands behind the top -/
structure Row (K : PySem.W.Frag) (mg : Str → Option Value) (e : Ent) : Prop where
  ex : ∃ (f : Addr) (fd : FuncData), FRow K mg e f fd
/-- a def that tells, as it stands behind the top -/
structure RowW (K : PySem.W.Frag) (mg : Str → Option Value) (e : Wnt) : Prop where
  ex : ∃ (f : Addr) (fd : FuncData), mg e.name = some (.ref f) ∧ L2.Fun K e.name e.name e.st f fd ∧ Binds K fd [e.a] []
/-- the classes that the clauses name -/
structure RowC (K : PySem.W.Frag) (mg : Str → Option Value) (cx : List (Str × List Str)) (n : Str) : Prop where
  ex : ∃ c : Addr, mg n = some (.ref c) ∧ ∀ m l cls, cx.lookup m = some l → mg m = some (.ref cls) → PySem.W.exmOne K (.ref cls) (.ref c) = some (decide (n ∈ l))
structure CsOk (K : PySem.W.Frag) (mg : Str → Option Value) (x : Str) (d : D) : Prop where
  ex : ∃ v u, mg x = some u ∧ RelV v u ∧ ∀ w H, RD K mg w H d v
/-- all that a module's check gives -/
structure Chk (M : Md) (g : Gb) : Prop where
  nd : (M.tb.map (·.name)).Nodup
  ok : ∀ e ∈ M.tb, chkE g e = true
  fns : ∀ n ∈ g.fns, ∃ e ∈ M.tb, e.name = n
  wnd : (M.ws.map (·.name)).Nodup
  wok : ∀ e ∈ M.ws, chkW e = true
  ws : g.ws = M.ws.map fun e => (e.name, e.hs, e.told)
  cx : g.cx = M.cx
/-- all that stands behind the top -/
structure Std (K : PySem.W.Frag) (mg : Str → Option Value) (M : Md) (g : Gb) : Prop where
  r : ∀ e ∈ M.tb, Row K mg e
  w : ∀ e ∈ M.ws, RowW K mg e
  c : ∀ e ∈ M.ws, ∀ p ∈ e.hs, RowC K mg M.cx p.1
  x : ∀ n ∈ M.cx.map (·.1), ExcC K mg n
  bl : ∀ n ∈ g.bl, mg n = none
  cs : ∀ x d, M.cs.lookup x = some d → CsOk K mg x d
section
variable {P : Program} {w : World} {K : PySem.W.Frag} {mg : Str → Option Value} {base : Heap} {M : Md} {tb : List Ent} {g : Gb}
theorem tbl_mem {e : Ent} (nd : (tb.map (·.name)).Nodup) (h : e ∈ tb) : tbl tb e.name = some e.fn := by
  unfold tbl
  have : tb.find? (fun x => x.name == e.name) = some e := by
    induction tb with
    | nil => cases h
    | cons a r ih =>
      rw [List.map_cons, List.nodup_cons] at nd
      rw [List.find?_cons]
      rcases List.mem_cons.mp h with rfl | h
      · rw [show (e.name == e.name) = true from beq_self_eq_true _]
      · have : (a.name == e.name) = false := by
          rw [beq_eq_false_iff_ne]
          intro z
          exact nd.1 (z ▸ List.mem_map_of_mem (f := (·.name)) h)
        rw [this]
        exact ih nd.2 h
  rw [this]; rfl
theorem wnt_mem {e : Wnt} : ∀ {ws : List Wnt}, (ws.map (·.name)).Nodup → e ∈ ws → ws.find? (fun x => x.name == e.name) = some e
  | [], _, h => by cases h
  | a :: r, nd, h => by
    rw [List.map_cons, List.nodup_cons] at nd
    rw [List.find?_cons]
    rcases List.mem_cons.mp h with rfl | h
    · rw [show (e.name == e.name) = true from beq_self_eq_true _]
    · have : (a.name == e.name) = false := by
        rw [beq_eq_false_iff_ne]
        intro z
        exact nd.1 (z ▸ List.mem_map_of_mem (f := (·.name)) h)
      rw [this]
      exact wnt_mem nd.2 h
theorem tbl_some {n : Str} (h : (tbl tb n).isSome = true) : ∃ e ∈ tb, e.name = n := by
  unfold tbl at h
  cases q : tb.find? (fun e => e.name == n) with
  | none => rw [q] at h; cases h
  | some e => exact ⟨e, List.mem_of_find?_eq_some q, beq_iff_eq.mp (List.find?_some (p := fun e : Ent => e.name == n) q)⟩
/-- the clauses as they stand, in any context over this module -/
theorem hdls {X : Cx} {sc : Scope} (hm : X.mg = mg) (hk : X.K = K) {cx : List (Str × List Str)} : ∀ {hds : List ExceptHandler} {hs : List (Str × Str)}, chkH sc hds hs = true → (∀ p ∈ hs, RowC K mg cx p.1) → ∃ vs, Hdl X sc hds vs ∧ ClsAt X.K X.mg cx hs vs
  | [], [], _, _ => ⟨[], .nil, .nil⟩
  | [], _ :: _, h, _ => by unfold chkH at h; cases h
  | h0 :: hds, hs, h, r => by
    unfold chkH at h
    split at h
    · rename_i heq; cases heq
    · rename_i n p1 y j p2 p3 p4 rest m z q e1
      cases e1
      simp only [Bool.and_eq_true, decide_eq_true_eq, Bool.not_eq_true'] at h
      obtain ⟨⟨⟨⟨rfl, rfl⟩, h3⟩, h4⟩, h5⟩ := h
      obtain ⟨vs, i1, i2⟩ := hdls hm hk h5 fun p hp => r p (List.mem_cons_of_mem _ hp)
      obtain ⟨c, c1, c2⟩ := (r _ List.mem_cons_self).ex
      subst hm hk
      exact ⟨_, .cons h3 c1 h4 i1, .cons c2 i2⟩
    · cases h
/-- every def of the table keeps what it means; three levels for a call -/
theorem all_fn (ck : Chk M g) (S : Std K mg M g) (hT : ∀ e ∈ M.tb, e.lam = true → ∀ c P, PySem.W.tabIn K e.name = some (c, P) → LamX.TabB base mg c P) :
    ∀ k, ∀ e ∈ M.tb, ∀ (f : Addr) (fd : FuncData), FRow K mg e f fd → FnG P w K mg base (3 * k) f fd e.ps ((cfg M k).fns e.name)
  | 0, e, he, f, fd, F => ⟨fun A outer s H args us vs Q E _ _ _ _ _ ⟨w1, ds, sto, _, _, _, p⟩ => p.elim⟩
  | k + 1, e, he, f, fd, F => by
    have ih := all_fn ck S hT k
    obtain ⟨hmg, Fn, hbd, hlam⟩ := F
    obtain ⟨oc, od, kV, doc, pm, an, cdv, ct, osl, rfl, lk, hcd⟩ := Fn.ex
    have ck1 := ck.ok e he
    unfold chkE at ck1
    simp only [Bool.and_eq_true, decide_eq_true_eq] at ck1
    obtain ⟨⟨⟨k1, k2⟩, k3⟩, k4⟩ := ck1
    have e1 : (cfg M (k + 1)).fns e.name = e.fn.run (cfg M k) := by
      funext ds sto
      show (match tbl M.tb e.name with
        | none => none
        | some f => f.run (cfg M k) ds sto) = _
      rw [tbl_mem ck.nd he]
    rw [e1]
    have e2 : 3 * (k + 1) = (3 * k + 2) + 1 := by omega
    rw [e2]
    refine fn_pi lk hcd (C8.fnScope_by k1) k2 k3 fun X Z B => (soundS g (cfg M k) (3 * k) e.fn.body).l _ X Z _ ⟨?_, B.own⟩ k4
    obtain ⟨rfl, rfl, rfl, rfl, rfl, hN, hsc, calm, room, gu, fn, own, tk, code, qual⟩ := B
    have has : ∀ e' ∈ M.tb, Has X (3 * k) e'.name ((cfg M k).fns e'.name) := fun e' he' => by
      obtain ⟨f', fd', R⟩ := (S.r e' he').ex
      refine ⟨f', fd', e'.ps, R.mg, R.fn.kp, R.bd, fun ds sto hne => ?_, ih e' he' f' fd' R⟩
      cases k with
      | zero => exact absurd rfl hne
      | succ k =>
        have hne : (match tbl M.tb e'.name with
          | none => none
          | some f => f.run (cfg M k) ds sto) ≠ none := hne
        rw [tbl_mem ck.nd he'] at hne
        have ck1 := ck.ok e' he'
        unfold chkE at ck1
        simp only [Bool.and_eq_true, decide_eq_true_eq] at ck1
        rw [run_len hne, ck1.1.1.2]
    refine ⟨hN, by rw [hN]; exact (C8.fnScope_by k1).nd, hsc, calm, room.mono (by omega), gu, fun _ => fn, tk, fun n hn => ?_, S.bl, fun n d hd => (S.cs n d (by cases k <;> exact hd)).ex, fun d hd n hs told hw => ?_, by rw [ck.cx]; exact S.x, fun f hf => ?_, fun d hd => ?_⟩
    · obtain ⟨e', he', rfl⟩ := ck.fns n hn
      exact has e' he'
    · rw [ck.ws] at hw
      obtain ⟨e', he', ee⟩ := List.mem_map.mp hw
      cases ee
      have cw := ck.wok e' he'
      unfold chkW at cw
      simp only [Bool.and_eq_true, decide_eq_true_eq, Bool.not_eq_true'] at cw
      obtain ⟨⟨⟨⟨⟨w1, w2⟩, w3⟩, w4⟩, w5⟩, w6⟩ := cw
      obtain ⟨f', fd', q1, q2, q3⟩ := (S.w e' he').ex
      obtain ⟨oc', od', kV', doc', pm', an', cdv', ct', osl', rfl, lk', hcd'⟩ := q2.ex
      have bodyIs : ∃ (h0 : ExceptHandler) (hds : List ExceptHandler) (p1 p2 p3 p4 p5 p6 : Pos) (j : Nat), L2.defBody e'.st = [.Try [.Expr (.Call (.Name e'.a p1) [] [] p2) p3] (h0 :: hds) [] [] p4, .Return (some (.Constant (.str e'.told) j p5)) p6] ∧ chkH (L2.defScope e'.st) (h0 :: hds) e'.hs = true := by
        unfold chkB at w6
        split at w6
        · rename_i eb
          simp only [Bool.and_eq_true, decide_eq_true_eq] at w6
          obtain ⟨⟨rfl, rfl⟩, w6⟩ := w6
          exact ⟨_, _, _, _, _, _, _, _, _, eb, w6⟩
        · cases w6
      obtain ⟨h0, hds, p1, p2, p3, p4, p5, p6, j, eb, ch⟩ := bodyIs
      obtain ⟨vs, v1, v2⟩ := hdls (X := X) rfl rfl ch (S.c e' he')
      have vis : Vis (L2.defScope e'.st) e'.a := by
        unfold Vis
        split at w3 <;> rename_i ee <;> first | exact .inl ee | exact .inr (.inl ee) | exact .inr (.inr ee) | cases w3
      refine ⟨vs, ⟨f', oc', od', an', osl', _, _, _, _, _, _, _, cdv', _, e'.N, e'.a, q1, q2.kp, lk', hcd', q3, C8.fnScope_by w1, w2, vis, w4, w5, fun q => ?_⟩, by rw [ck.cx]; exact v2, ?_⟩
      · rw [eb]
        exact word_gives v1 fun f => by
          obtain ⟨n0, rest, en⟩ : ∃ n0 rest, e'.N = n0 :: rest := by
            cases hh : e'.N with
            | nil => rw [hh] at w2; cases w2
            | cons a b => exact ⟨a, b, rfl⟩
          rw [en]
          rfl
      · funext x
        have : (cfg M k).wrd = wrds M := by cases k <;> rfl
        rw [this, ck.cx]
        unfold wrds
        rw [wnt_mem ck.wnd he']
        rfl
    · cases k with
      | zero => cases hf
      | succ k =>
        obtain ⟨e', he', rfl⟩ := tbl_some (tb := M.tb) hf
        exact has e' he'
    · have hd : (if e.lam = true then some e.name else none) = some d := hd
      by_cases hl : e.lam = true
      · rw [if_pos hl] at hd
        cases hd
        obtain ⟨c, P', c1, c2⟩ := hlam hl
        refine ⟨room, qual, c, P', ?_, hT e he hl c P' c2, c2⟩
        rw [code]
        exact c1
      · rw [if_neg hl] at hd
        cases hd
end

/-! ### the law's end -/
theorem scr_ints {K : PySem.W.Frag} {mg : Str → Option Value} {H : Hp} {w : Wd} : ∀ ns : List Int, RDs K mg w H (ns.map .int) (ns.map V.int)
  | [] => rfl
  | n :: ns => ⟨.int n, ns.map V.int, rfl, rfl, scr_ints ns⟩
/-- the table of a def's code -/
def tabP (K : PySem.W.Frag) (x : Str) : Addr := ((PySem.W.tabIn K x).map (·.2)).getD 0
def tabsB (K : PySem.W.Frag) (ts : List Str) : Bool := (ts.all fun x => match PySem.W.tabIn K x with
  | some (_, P) => (K.lookup P).isNone
  | none => false) && decide (ts.map (tabP K)).Nodup
theorem tabsB_at {K : PySem.W.Frag} {ts : List Str} (h : tabsB K ts = true) : (∀ x ∈ ts, ∃ c, PySem.W.tabIn K x = some (c, tabP K x) ∧ K.lookup (tabP K x) = none) ∧ (ts.map (tabP K)).Nodup := by
  unfold tabsB at h
  rw [Bool.and_eq_true, List.all_eq_true] at h
  refine ⟨fun x hx => ?_, of_decide_eq_true h.2⟩
  have := h.1 x hx
  split at this
  · rename_i c P e
    have e2 : tabP K x = P := by unfold tabP; rw [e]; rfl
    refine ⟨c, by rw [e, e2], ?_⟩
    rw [e2]
    exact Option.isNone_iff_eq_none.mp this
  · cases this
theorem law_end {l : PySem.W.OpenLaw} {n k : Nat} {q : Program} {loose : List Str} {XP : (Str → Option Value) → Heap → Prop} {YP : World → Heap → Prop} {d : DefRec} {K : Params → PySem.W.Frag} {x : Str} {m : Mn} {ts : List Str}
    (hn : l.most = some n) (hn2 : n ≤ sizeLine) (hdf : d.params.defaults = []) (room : Room k callerA) (hY : ∀ (w : World) (h : Heap), YP w h → (K w.params).In h)
    (rec_ : ∀ x ∈ ts, ∃ dd, (PyProof.Rows.recsOf q).find? (fun e => e.name == x) = some dd) (tabs : ∀ w : World, tabsB (K w.params) ts = true)
    (F : ∀ (w : World) (mg : Str → Option Value) (fa : Addr) (h : Heap), (K w.params).In h → h.Ns mainGlobals mg → mg d.name = some (.ref fa) → ∃ fd : FuncData, (∀ (s : Shared) (u : Value), (K w.params).In s.heap → BindsTo s fd ⟨[u], []⟩ [(x, u)]) ∧
      ∀ base, (∀ x ∈ ts, ∀ c P, PySem.W.tabIn (K w.params) x = some (c, P) → LamX.TabB base mg c P) → FnG l.prog w (K w.params) mg base k fa fd [x] m)
    (law : ∀ ns : List Int, ns.length ≤ n → ∃ sto, m [.scr (ns.map .int)] (ts.map mk) = some (.ok (.val (.bl true)), sto)) : PySem.W.WalkO q loose XP YP l.row.toRowW d [] (fun f vs => PySem.call f vs) := by
  refine Att.attach_call hn hdf fun w s₀ s₁ mg mb fa o pm cd doc a vs ns G Y ho hd hcd hmg ha hi hlen hg => ?_
  have KX := hY w _ Y
  obtain ⟨fd, bd, hF⟩ := F w mg fa _ KX G.T.g hmg
  obtain ⟨tb1, tb2⟩ := tabsB_at (tabs w)
  have rv : Vals (ns.map V.int) vs := vals_ints hi
  have big : (ns.map V.int).length ≤ sizeLine := by rw [List.length_map]; exact Nat.le_trans hlen hn2
  obtain ⟨io, eio⟩ : ∃ io, io = ts.map (tabP (K w.params)) := ⟨_, rfl⟩
  rw [← eio] at tb2
  have codes : ∀ x ∈ ts, ∀ c P, PySem.W.tabIn (K w.params) x = some (c, P) → PySem.W.CodeHd s₁.heap c P ∧ s₁.heap.get? P = some { cls := .none, data := .fields #[] } := fun x hx c P e => by
    obtain ⟨dd, hdd⟩ := rec_ x hx
    exact PySem.W.tab_of G.T KX hdd e
  have isT : ∀ b ∈ io, s₁.heap.get? b = some { cls := .none, data := .fields #[] } := fun b hb => by
    rw [eio] at hb
    obtain ⟨x, hx, rfl⟩ := List.mem_map.mp hb
    obtain ⟨c, e, _⟩ := tb1 x hx
    exact (codes x hx c _ e).2
  have nK : ∀ b ∈ io, (K w.params).lookup b = none := fun b hb => by
    rw [eio] at hb
    obtain ⟨x, hx, rfl⟩ := List.mem_map.mp hb
    obtain ⟨c, e, z⟩ := tb1 x hx
    exact z
  have aT : a ∉ io := fun z => by
    have := isT a z
    rw [ha] at this
    cases this
  -- over a heap that tracks the tables, and the script at most
  have core : ∀ H : Hp, (∀ b ∈ io, H b = some (.tbl #[])) → (∀ b u, H b = some u → b ∈ io ∨ (b = a ∧ ∃ ob, u = .frz ob (.lst (ns.map V.int)) ∧ (K w.params).lookup b = none)) → HOk l.prog w H s₁.heap → RD (K w.params) mg ⟨fun b => b ∈ io, io⟩ H (.scr (ns.map .int)) (.ref a) →
      codeAny (model l.prog w) callerA (.call (.ref fa) ⟨[.ref a], []⟩) (fun r s' => r = .ok (.ret (.bool true)) ∧ OldK s₁.heap s'.heap ∧ s'.os = s₁.os ∧ AllBare s'.gens) s₁ := by
    intro H hT hH hok hrd
    have stays : ∀ {b : Addr} {o : Obj}, s₁.heap.get? b = some o → H b = none → (hidT s₁.heap H).get? b = some o := hidT_get
    -- what is neither a list nor an empty table is not tracked
    have free : ∀ {b : Addr} {o : Obj}, s₁.heap.get? b = some o → (∀ vs n, o.data ≠ .seq vs n) → o.data ≠ .fields #[] → H b = none := fun {b o} e n1 n2 => by
      cases hb : H b with
      | none => rfl
      | some u =>
        rcases hH b u hb with z | ⟨rfl, _⟩
        · rw [isT b z] at e
          cases e
          exact absurd rfl n2
        · rw [ha] at e
          cases e
          exact absurd rfl (n1 _ _)
    have ns_of : ∀ {b : Addr} {m : Str → Option Value}, s₁.heap.Ns b m → (hidT s₁.heap H).Ns b m := by
      rintro b m ⟨o, es, ep, e, hd, r⟩
      exact ⟨o, es, ep, stays e (free e (fun vs n z => by rw [hd] at z; cases z) fun z => by rw [hd] at z; cases z), hd, r⟩
    have kin : (K w.params).In (hidT s₁.heap H) := by
      intro b o e
      refine stays (KX b o e) ?_
      cases hb : H b with
      | none => rfl
      | some u =>
        rcases hH b u hb with z | ⟨_, _, _, hK⟩
        · rw [nK b z] at e; cases e
        · rw [hK] at e; cases e
    obtain ⟨ml, l1, l2⟩ := G.T.nolimit
    have e0 : Env0 l.prog w (K w.params) mg (hidT s₁.heap H) callerA [] s₁ H := by
      refine ⟨rfl, ⟨kin, ns_of G.T.g, ⟨mb, ns_of G.T.b, G.T.builtins⟩, ml, ns_of l1, l2⟩, fun b o e => of_hidT e, Nat.le_of_eq (hidT_size _ _), trivial, fun b hb => ?_, hok, .of_eq hg⟩
      cases hb
    have TB : ∀ x ∈ ts, ∀ c P, PySem.W.tabIn (K w.params) x = some (c, P) → LamX.TabB (hidT s₁.heap H) mg c P := by
      intro x hx c P e
      obtain ⟨C, hP⟩ := codes x hx c P e
      refine ⟨?_, ?_, fun z => ?_⟩
      · obtain ⟨ob, us, file, tf, flags, tg, inF, text, tt, z1, z2, z3, z4, rest⟩ := C
        exact ⟨ob, us, file, tf, flags, tg, inF, text, tt, stays z1 (free z1 (fun vs n z => by rw [z3] at z; cases z) fun z => by rw [z3] at z; cases z; simp at z4), z2, z3, z4, rest⟩
      · obtain ⟨bm, ob, b1, b2, b3, b4, b5, b6⟩ := G.T.bmain
        refine ⟨bm, ob, b1, b2, fun q => ?_, fun q => ?_, stays b3 (free b3 (fun vs n z => by rw [b6] at z; cases z) fun z => by rw [b6] at z; cases z), b4, b5, b6⟩
        · obtain ⟨og, es, ep, g1, g2, _⟩ := G.T.g
          rw [q, g1] at b3
          cases b3
          rw [g2] at b6
          cases b6
        · rw [q, hP] at b3
          cases b3
          cases b6
      · obtain ⟨og, es, ep, g1, g2, _⟩ := G.T.g
        rw [z, hP] at g1
        cases g1
        cases g2
    obtain ⟨sto, em⟩ := law ns hlen
    have sp : spM (K w.params) mg 1 m [.ref a] H (fun v _ => v = .bl true) fun _ _ _ => False := by
      refine ⟨⟨fun b => b ∈ io, io⟩, [.scr (ns.map .int)], ts.map mk, ⟨rfl, ?_, ?_, ?_, ?_, ?_, ?_, ?_, tb2, fun b hb => ?_⟩, ⟨.ref a, [], rfl, hrd, rfl⟩, rfl, ?_⟩
      · exact fun i d e => nomatch (show ([] : List Sl)[i]? = some (.val d) from e)
      · exact fun i d e => nomatch (show ([] : List Sl)[i]? = some (.own d) from e)
      · exact fun i j b ⟨ys, e, _⟩ _ => nomatch (show ([] : List Sl)[i]? = some (.own ys) from e)
      · intro n xs e c
        have e : (ts.map mk)[n]? = some xs := e
        rw [List.getElem?_map] at e
        obtain ⟨x, _, rfl⟩ := map_some e
        cases c
      · intro n xs y e c
        have e : (ts.map mk)[n]? = some xs := e
        rw [List.getElem?_map] at e
        obtain ⟨x, e1, rfl⟩ := map_some e
        have exy : x = y := by cases c; rfl
        subst exy
        have hx : x ∈ ts := List.mem_of_getElem? e1
        have mem : tabP (K w.params) x ∈ io := by rw [eio]; exact List.mem_map_of_mem hx
        obtain ⟨c, e2, _⟩ := tb1 x hx
        refine ⟨tabP (K w.params) x, ?_, mem, ⟨c, e2⟩, LamX.TabS.nil (hT _ mem)⟩
        show io[n]? = _
        rw [eio, List.getElem?_map, e1]; rfl
      · intro b ps e
        rcases hH b _ e with z | ⟨_, ob, z, _⟩
        · exact z
        · cases z
      · show io.length = (ts.map mk).length
        rw [eio, List.length_map, List.length_map]
      · rw [hT b hb]; intro z; cases z
      · rw [em]
        exact fun v w' H' _ _ r => r
    have run := (hF (hidT s₁.heap H) TB).run callerA [] s₁ H ⟨[.ref a], []⟩ [.ref a] [.ref a] _ _ room rfl e0 (bd s₁ (.ref a) KX) (.cons rfl .nil) sp
    refine codeAny_mono run ?_
    intro r s' h
    match r, h with
    | .error e, h =>
      obtain ⟨_, _, _, _, _, _, _, _, _, _, _, _, z⟩ := h
      exact z.elim
    | .ok .next, h => exact h.elim
    | .ok .brk, h => exact h.elim
    | .ok .cont, h => exact h.elim
    | .ok (.ret u), ⟨v, H', os, br, un, hok', rr, q⟩ =>
      have q : v = .bl true := q
      subst q
      obtain rfl : u = Value.bool true := rr
      have same : ∀ b o, b ∉ io → s₁.heap.get? b = some o → s'.heap.get? b = some o := fun b o nb e => by
        cases hb : H b with
        | none => exact un.keep b o e hb (fun z => by cases z) (fun z => by cases z)
        | some u =>
          rcases hH b u hb with z | ⟨_, ob, rfl, _⟩
          · exact absurd z nb
          · obtain ⟨p1, _⟩ := hok b _ hb
            obtain ⟨p2, _⟩ := hok' b _ (un.frzs b ob _ hb)
            rw [e] at p1; cases p1
            exact p2
      have grown : ∀ b ∈ io, ∃ more : Array Value, s'.heap.get? b = some { cls := .none, data := .fields more } := fun b hb => by
        obtain ⟨more, z⟩ := un.tbls b #[] (hT b hb)
        exact ⟨_, hok' b _ z⟩
      refine ⟨rfl, ⟨fun b o e => ?_, fun b o e => ?_⟩, os, br⟩
      · by_cases hb : b ∈ io
        · obtain ⟨more, hm⟩ := grown b hb
          have e' := isT b hb
          rw [e] at e'
          cases e'
          have hb' := hb
          rw [eio] at hb'
          obtain ⟨x, hx, rfl⟩ := List.mem_map.mp hb'
          obtain ⟨c, e2, _⟩ := tb1 x hx
          exact .inr (.inl ⟨((codes x hx c _ e2).1.tab e).isCodeTable, rfl, #[], more, rfl, by rw [Array.empty_append]; exact hm⟩)
        · exact .inl (same b o hb e)
      · by_cases hb : b ∈ io
        · obtain ⟨more, hm⟩ := grown b hb
          exact ⟨_, hm⟩
        · exact ⟨o, same b o hb e⟩
  have inT : ∀ b, b ∈ io → ∀ p : Prop, (b = a → p) := fun b hb p e => absurd (e ▸ hb) aT
  cases hk : (K w.params).lookup a with
  | some o1 =>
    have e := KX a o1 hk
    rw [ha] at e
    cases e
    refine core (fun b => if b ∈ io then some (.tbl #[]) else none) (fun b hb => if_pos hb) (fun b u z => ?_) (fun b u z => ?_) ⟨a, ns.map V.int, rfl, .inr ⟨_, vs.toArray, _, hk, rfl, rfl, rfl, ?_, rv⟩, scr_ints ns⟩
    · by_cases hb : b ∈ io
      · exact .inl hb
      · rw [if_neg hb] at z; cases z
    · have z : (if b ∈ io then some (HO.tbl #[]) else none) = some u := z
      by_cases hb : b ∈ io
      · rw [if_pos hb] at z
        cases z
        exact isT b hb
      · rw [if_neg hb] at z; cases z
    · rw [List.size_toArray, ← rv.length]; exact big
  | none =>
    obtain ⟨ob, hob⟩ : ∃ ob : Obj, ob = { cls := .type "list", data := .seq vs.toArray } := ⟨_, rfl⟩
    refine core (fun b => if b = a then some (.frz ob (.lst (ns.map V.int))) else if b ∈ io then some (.tbl #[]) else none) (fun b hb => ?_) (fun b u z => ?_) (fun b u z => ?_) ⟨a, ns.map V.int, rfl, .inl ⟨ob, if_pos rfl, aT⟩, scr_ints ns⟩
    · have : b ≠ a := fun e => aT (e ▸ hb)
      show (if b = a then some (HO.frz ob (.lst (ns.map V.int))) else if b ∈ io then some (.tbl #[]) else none) = _
      rw [if_neg this, if_pos hb]
    · have z : (if b = a then some (HO.frz ob (.lst (ns.map V.int))) else if b ∈ io then some (.tbl #[]) else none) = some u := z
      by_cases hb : b = a
      · subst hb
        rw [if_pos rfl] at z
        cases z
        exact .inr ⟨rfl, ob, rfl, hk⟩
      · rw [if_neg hb] at z
        by_cases hb2 : b ∈ io
        · exact .inl hb2
        · rw [if_neg hb2] at z; cases z
    · have z : (if b = a then some (HO.frz ob (.lst (ns.map V.int))) else if b ∈ io then some (.tbl #[]) else none) = some u := z
      by_cases hb : b = a
      · subst hb
        rw [if_pos rfl] at z
        cases z
        subst hob
        exact ⟨ha, big, vs, _, rv, ha⟩
      · rw [if_neg hb] at z
        by_cases hb2 : b ∈ io
        · rw [if_pos hb2] at z
          cases z
          exact isT b hb2
        · rw [if_neg hb2] at z; cases z

/-- how a def's arguments bind -/
def BndE (e : Ent) : Prop := ∀ (kV doc pm : Value) (an : Option Addr) (cdv ct : Value) (us : List Value), us.length = e.ps.length →
  bindArgs (PySem.W.fnOf e.name e.name (L2.defArgs e.st) (L2.defBody e.st) (L2.defScope e.st) .none kV doc pm an cdv ct) ⟨us, []⟩ = pure (e.ps.zip us)
theorem row_mk {K : PySem.W.Frag} {h : Heap} {mg : Str → Option Value} {e : Ent} {f : Addr} {oc : Value} {od an : Option Addr} {osl : Array (Option Value)} {kV doc pm cdv ct : Value} (X : K.In h) (G : h.Ns mainGlobals mg)
    (a : PySem.W.nsIn K mainGlobals e.name = some (some (.ref f))) (l : K.lookup f = some ⟨oc, od, .func (PySem.W.fnOf e.name e.name (L2.defArgs e.st) (L2.defBody e.st) (L2.defScope e.st) .none kV doc pm an cdv ct), osl⟩)
    (c : PySem.W.codeIn K cdv e.name = true) (k : PySem.W.keepIn K (.ref f) = true) (b : BndE e) (t : (!e.lam || (PySem.W.tabIn K e.name).isSome) = true) : Row K mg e := by
  have F := L2.fun_mk l c k
  refine ⟨f, _, PySem.W.mg_of X G a, F, F.binds b, fun hl => ?_⟩
  rw [hl] at t
  obtain ⟨⟨cc, P⟩, e1⟩ := Option.isSome_iff_exists.mp (show (PySem.W.tabIn K e.name).isSome = true from t)
  refine ⟨cc, P, ?_, e1⟩
  unfold PySem.W.tabIn at e1
  rw [a] at e1
  simp only [l] at e1
  split at e1
  · rename_i c0
    split at e1
    · split at e1
      · cases e1; rfl
      · cases e1
    · cases e1
  · cases e1
def BndW (e : Wnt) : Prop := ∀ (kV doc pm : Value) (an : Option Addr) (cdv ct : Value) (us : List Value), us.length = 1 →
  bindArgs (PySem.W.fnOf e.name e.name (L2.defArgs e.st) (L2.defBody e.st) (L2.defScope e.st) .none kV doc pm an cdv ct) ⟨us, []⟩ = pure ([e.a].zip us)
theorem rowW_mk {K : PySem.W.Frag} {h : Heap} {mg : Str → Option Value} {e : Wnt} {f : Addr} {oc : Value} {od an : Option Addr} {osl : Array (Option Value)} {kV doc pm cdv ct : Value} (X : K.In h) (G : h.Ns mainGlobals mg)
    (a : PySem.W.nsIn K mainGlobals e.name = some (some (.ref f))) (l : K.lookup f = some ⟨oc, od, .func (PySem.W.fnOf e.name e.name (L2.defArgs e.st) (L2.defBody e.st) (L2.defScope e.st) .none kV doc pm an cdv ct), osl⟩)
    (c : PySem.W.codeIn K cdv e.name = true) (k : PySem.W.keepIn K (.ref f) = true) (b : BndW e) : RowW K mg e := by
  have F := L2.fun_mk l c k
  exact ⟨f, _, PySem.W.mg_of X G a, F, F.binds b⟩
/-- a class that is raised, named by clauses -/
def clsB (K : PySem.W.Frag) (n : Str) : Bool := match PySem.W.nsIn K mainGlobals n with
  | some (some (.ref c)) => PySem.W.excIn K c [.type "ValueError", .type "Exception", .type "BaseException", .type "object"] "ValueError.__new__" && PySem.W.keepIn K (.ref c) && decide (PySem.W.subIn K (.ref c) (.type "BaseException") = some true) && decide (PySem.W.typeIn K (.ref c) = some (.type "type"))
  | _ => false
def clsAtB (K : PySem.W.Frag) (cx : List (Str × List Str)) (n : Str) : Bool := match PySem.W.nsIn K mainGlobals n with
  | some (some (.ref c)) => cx.all fun p => match PySem.W.nsIn K mainGlobals p.1 with
    | some (some (.ref cls)) => decide (PySem.W.exmOne K (.ref cls) (.ref c) = some (decide (n ∈ p.2)))
    | _ => false
  | _ => false
theorem exc_mk {K : PySem.W.Frag} {h : Heap} {mg : Str → Option Value} {n : Str} (X : K.In h) (G : h.Ns mainGlobals mg) (b : clsB K n = true) : ExcC K mg n := by
  unfold clsB at b
  split at b
  · rename_i c e
    simp only [Bool.and_eq_true, decide_eq_true_eq] at b
    obtain ⟨⟨⟨b1, b2⟩, b3⟩, b4⟩ := b
    exact ⟨c, PySem.W.mg_of X G e, b1, b2, b3, b4⟩
  · cases b
theorem cls_mk {K : PySem.W.Frag} {h : Heap} {mg : Str → Option Value} {cx : List (Str × List Str)} {n : Str} (X : K.In h) (G : h.Ns mainGlobals mg) (b : clsAtB K cx n = true) : RowC K mg cx n := by
  unfold clsAtB at b
  split at b
  · rename_i c e
    refine ⟨c, PySem.W.mg_of X G e, fun m l cls hl hm => ?_⟩
    have b := List.all_eq_true.mp b (m, l) (PySem.mem_of_lookup hl)
    split at b
    · rename_i cls' e'
      have := PySem.W.mg_of X G e'
      rw [hm] at this
      cases this
      exact of_decide_eq_true b
    · cases b
  · cases b
theorem cs_int {K : PySem.W.Frag} {h : Heap} {mg : Str → Option Value} {x : Str} {i : Int} {t : Tok} (X : K.In h) (G : h.Ns mainGlobals mg) (a : PySem.W.nsIn K mainGlobals x = some (some (.int i t))) : CsOk K mg x (.int i) :=
  ⟨.int i, _, PySem.W.mg_of X G a, ⟨t, rfl⟩, fun _ _ => rfl⟩
theorem cs_str {K : PySem.W.Frag} {h : Heap} {mg : Str → Option Value} {x y : Str} {t : Tok} (X : K.In h) (G : h.Ns mainGlobals mg) (a : PySem.W.nsIn K mainGlobals x = some (some (.str y t))) : CsOk K mg x (.str y) :=
  ⟨.str y, _, PySem.W.mg_of X G a, ⟨t, rfl⟩, fun _ _ => rfl⟩
theorem cs_tup2 {K : PySem.W.Frag} {h : Heap} {mg : Str → Option Value} {x : Str} {p : Addr} {i j : Int} {t t' : Tok} {od : Option Addr} {n : Nat} {osl : Array (Option Value)} (X : K.In h) (G : h.Ns mainGlobals mg) (a : PySem.W.nsIn K mainGlobals x = some (some (.ref p)))
    (l : K.lookup p = some ⟨.type "tuple", od, .seq #[.int i t, .int j t'] n, osl⟩) : CsOk K mg x (.tup [.int i, .int j]) :=
  ⟨.ref p, _, PySem.W.mg_of X G a, rfl, fun w H => ⟨p, [.int i, .int j], rfl, .inr ⟨_, _, n, l, rfl, rfl, (by show 2 ≤ sizeLine; decide), .cons ⟨t, rfl⟩ (.cons ⟨t', rfl⟩ .nil)⟩, .int i, [.int j], rfl, rfl, .int j, [], rfl, rfl, rfl⟩⟩
/-- a def as a constant -/
theorem cs_fn {K : PySem.W.Frag} {h : Heap} {mg : Str → Option Value} {x : Str} {f : Addr} (X : K.In h) (G : h.Ns mainGlobals mg) (a : PySem.W.nsIn K mainGlobals x = some (some (.ref f))) : CsOk K mg x (.fn x) :=
  ⟨.ref f, _, PySem.W.mg_of X G a, rfl, fun _ _ => ⟨f, rfl, PySem.W.mg_of X G a⟩⟩
/-- the law's def out of the table -/
theorem fin {P : Program} {w : World} {K : PySem.W.Frag} {mg : Str → Option Value} {fa : Addr} {M : Md} {g : Gb} {e0 : Ent} {x : Str} {k : Nat} {ts : List Str} (ck : Chk M g) (he : e0 ∈ M.tb) (hps : e0.ps = [x]) (hts : ∀ e ∈ M.tb, e.lam = true → e.name ∈ ts) (hfa : mg e0.name = some (.ref fa)) (S : Std K mg M g) :
    ∃ fd : FuncData, (∀ (s : Shared) (u : Value), K.In s.heap → BindsTo s fd ⟨[u], []⟩ [(x, u)]) ∧ ∀ base, (∀ x ∈ ts, ∀ c P, PySem.W.tabIn K x = some (c, P) → LamX.TabB base mg c P) → FnG P w K mg base (3 * k) fa fd [x] ((cfg M k).fns e0.name) := by
  obtain ⟨f, fd, R⟩ := (S.r e0 he).ex
  have q1 := R.mg
  rw [hfa] at q1
  cases q1
  refine ⟨fd, fun s u X => ?_, fun base hT => ?_⟩
  · have := R.bd s [u] X (by rw [hps]; rfl)
    rw [hps] at this
    exact this
  · rw [← hps]
    exact all_fn ck S (fun e he hl c P q => hT e.name (hts e he hl) c P q) k e0 he fa fd R
end Pi

set_option Elab.async false
set_option linter.all false
set_option maxRecDepth 100000
/-! PiM0: how to reckon with a meaning. -/
namespace Pi
open PySem L2
theorem fns_at {M : Md} {n : Str} {f : Fn} {k : Nat} {ds : List D} {sto : List (List D)} (h : tbl M.tb n = some f) : (cfg M (k + 1)).fns n ds sto = f.run (cfg M k) ds sto := by
  show (match tbl M.tb n with | none => none | some f => f.run (cfg M k) ds sto) = _
  rw [h]
theorem run1 {C : Cfg} {f : Fn} {ds : List D} {sto : List (List D)} (h : ds.length = f.nps) : f.run C ds sto = outF (exS C f.body ⟨ds.map .val ++ List.replicate (f.nsl - f.nps) .no, sto⟩) := run_eq h
theorem cst_at {M : Md} {n : Str} {k : Nat} : (cfg M k).cst n = M.cs.lookup n := by cases k <;> rfl
theorem wrd_at {M : Md} {k : Nat} : (cfg M k).wrd = wrds M := by cases k <;> rfl
theorem dfs_at {M : Md} {k : Nat} {n : Str} : (cfg M (k + 1)).dfs n = (tbl M.tb n).isSome := rfl
/-! ### loops -/
theorem iter_mono {f : St → Rs (Option Fl)} : ∀ {n : Nat} {s : St} {r : Except Xc Fl × St}, iter f n s = some r → iter f (n + 1) s = some r
  | 0, _, _, h => nomatch h
  | n + 1, s, r, h => by
    unfold iter at h ⊢
    cases e : f s with
    | none => rw [e] at h; cases h
    | some p =>
      obtain ⟨q, s1⟩ := p
      rw [e] at h
      cases q with
      | error x => exact h
      | ok o =>
        cases o with
        | some fl => exact h
        | none => exact iter_mono (n := n) h
theorem iter_le {f : St → Rs (Option Fl)} {n m : Nat} {s : St} {r : Except Xc Fl × St} (h : iter f n s = some r) (l : n ≤ m) : iter f m s = some r := by
  induction l with
  | refl => exact h
  | step _ ih => exact iter_mono ih
theorem loop_of {f : St → Rs (Option Fl)} {n : Nat} {s : St} {r : Except Xc Fl × St} (h : iter f n s = some r) : loop f s = some r := by
  have ex : ∃ n, (iter f n s).isSome = true := ⟨n, by rw [h]; rfl⟩
  unfold loop
  rw [dif_pos ex]
  have q := Classical.choose_spec ex
  obtain ⟨r', e⟩ := Option.isSome_iff_exists.mp q
  rw [e]
  rcases Nat.le_total n (Classical.choose ex) with l | l
  · rw [← iter_le h l, e]
  · rw [← h, iter_le e l]
/-- a while: a turn that goes on, then the rest -/
theorem whl_turn {C : Cfg} {c : E} {b : S} {s s1 s2 : St} {r : Except Xc Fl × St} (hc : evE C c s = okk (.val (.bl true)) s1) (hb : exS C b s1 = okk .nx s2) (h : ∃ n, iter (whl1 (evE C c) (exS C b)) n s2 = some r) : ∃ n, iter (whl1 (evE C c) (exS C b)) n s = some r := by
  obtain ⟨n, h⟩ := h
  refine ⟨n + 1, ?_⟩
  unfold iter
  have : whl1 (evE C c) (exS C b) s = okk none s2 := by
    unfold whl1
    rw [hc]
    simp only [okk, hb]
  rw [this]
  exact h
theorem whl_end {C : Cfg} {c : E} {b : S} {s s1 : St} (hc : evE C c s = okk (.val (.bl false)) s1) : ∃ n, iter (whl1 (evE C c) (exS C b)) n s = some (.ok .nx, s1) := by
  refine ⟨1, ?_⟩
  unfold iter
  have : whl1 (evE C c) (exS C b) s = okk (some .nx) s1 := by
    unfold whl1
    rw [hc]
    simp only [okk]
  rw [this]; rfl
theorem whl_ex {C : Cfg} {c : E} {b : S} {s : St} {r : Except Xc Fl × St} (h : ∃ n, iter (whl1 (evE C c) (exS C b)) n s = some r) : exS C (.whl c b) s = some r := by
  obtain ⟨n, h⟩ := h
  exact loop_of h
theorem seq_nx {C : Cfg} {a b : S} {s s1 : St} (h : exS C a s = okk .nx s1) : exS C (.seq a b) s = exS C b s1 := by
  show bnd (exS C a s) _ = _
  rw [h]; rfl
theorem for_ex {C : Cfg} {t : T} {src : E} {b : S} {s s1 : St} {items : List D} (h : evI C src s = okk items s1) : exS C (.for t src b) s = forGo t (exS C b) items s1 := by
  show bnd (evI C src s) _ = _
  rw [h]; rfl
/-- a for whose turns all go on -/
theorem forGo_ind {t : T} {b : St → Rs Fl} (P : List D → St → Prop) (step : ∀ x r s, P (x :: r) s → ∃ env s', bindT t x s.env = some env ∧ (b { s with env := env } = okk .nx s' ∨ b { s with env := env } = okk .cnt s') ∧ P r s') :
    ∀ (items : List D) (s : St), P items s → ∃ s', forGo t b items s = okk .nx s' ∧ P [] s'
  | [], s, h => ⟨s, rfl, h⟩
  | x :: r, s, h => by
    obtain ⟨env, s1, h1, h2, h3⟩ := step x r s h
    obtain ⟨s2, h4, h5⟩ := forGo_ind P step r s1 h3
    refine ⟨s2, ?_, h5⟩
    unfold forGo
    rw [h1]
    rcases h2 with h2 | h2 <;> (simp only [h2, okk]; exact h4)
/-! ### blocks -/
theorem lcGo_ind {vs : List Nat} {t : T} {c e : St → Rs Rv} (W : List Sl) (P : List D → List D → List (List D) → Prop)
    (step : ∀ x r acc sto, P acc (x :: r) sto → ∃ env, bindT t x W = some env ∧ ((∃ y env' sto', c ⟨env, sto⟩ = okk (.val (.bl true)) ⟨env, sto⟩ ∧ e ⟨env, sto⟩ = okk y ⟨env', sto'⟩ ∧ wipeE env' vs = W ∧ acc.length < szL ∧ P (acc ++ [y.d]) r sto') ∨
      (c ⟨env, sto⟩ = okk (.val (.bl false)) ⟨env, sto⟩ ∧ wipeE env vs = W ∧ P acc r sto))) :
    ∀ (items acc : List D) (env0 : List Sl) (sto : List (List D)), wipeE env0 vs = W → P acc items sto → ∃ out env' sto', lcGo vs t c e items acc ⟨env0, sto⟩ = okk out ⟨env', sto'⟩ ∧ wipeE env' vs = W ∧ P out [] sto'
  | [], acc, env0, sto, hw, h => ⟨acc, env0, sto, rfl, hw, h⟩
  | x :: r, acc, env0, sto, hw, h => by
    obtain ⟨env, h1, h2⟩ := step x r acc sto h
    rcases h2 with ⟨y, env', sto', h2, h3, h4, h5, h6⟩ | ⟨h2, h4, h6⟩
    · obtain ⟨out, env2, sto2, h7, h8, h9⟩ := lcGo_ind W P step r (acc ++ [y.d]) env' sto' h4 h6
      refine ⟨out, env2, sto2, ?_, h8, h9⟩
      unfold lcGo
      simp only [hw, h1, h2, okk, h3]
      rw [show ∀ m : Rs (List D), gd (acc.length < szL) m = m from fun m => if_pos h5]
      exact h7
    · obtain ⟨out, env2, sto2, h7, h8, h9⟩ := lcGo_ind W P step r acc env sto h4 h6
      refine ⟨out, env2, sto2, ?_, h8, h9⟩
      unfold lcGo
      simp only [hw, h1, h2, okk]
      exact h7
theorem back_wipe {e e' : List Sl} {vs : List Nat} (h : wipeE e' vs = wipeE e vs) : backE e e' vs = e := by
  have hl : e'.length = e.length := by rw [← wipeE_length e' vs, h, wipeE_length]
  apply List.ext_getElem?
  intro i
  by_cases hi : i ∈ vs
  · by_cases hlt : i < e.length
    · have k : i < (backE e e' vs).length := by rw [backE_length]; omega
      have q := backE_in (s := (backE e e' vs)[i]) hi (List.getElem?_eq_getElem k)
      rw [List.getElem?_eq_getElem k, q]
      unfold Sl.at
      rw [List.getD_eq_getElem?_getD, List.getElem?_eq_getElem hlt]; rfl
    · rw [List.getElem?_eq_none (by rw [backE_length]; omega), List.getElem?_eq_none (by omega)]
  · rw [backE_out hi, ← wipeE_out (e := e') hi, h, wipeE_out hi]
theorem comp_ev {C : Cfg} {vs : List Nat} {t : T} {e src c : E} {s s1 : St} {items : List D} (P : List D → List D → List (List D) → Prop) (hs : evI C src s = okk items s1) (hf : freeOf s1.env vs = true) (h0 : P [] items s1.sto)
    (step : ∀ x r acc sto, P acc (x :: r) sto → ∃ env, bindT t x (wipeE s1.env vs) = some env ∧ ((∃ y env' sto', evE C c ⟨env, sto⟩ = okk (.val (.bl true)) ⟨env, sto⟩ ∧ evE C e ⟨env, sto⟩ = okk y ⟨env', sto'⟩ ∧ wipeE env' vs = wipeE s1.env vs ∧ acc.length < szL ∧ P (acc ++ [y.d]) r sto') ∨
      (evE C c ⟨env, sto⟩ = okk (.val (.bl false)) ⟨env, sto⟩ ∧ wipeE env vs = wipeE s1.env vs ∧ P acc r sto))) :
    ∃ out sto', evE C (.comp vs e t src c) s = okk (.new out) { s1 with sto := sto' } ∧ P out [] sto' := by
  obtain ⟨env1, sto1⟩ := s1
  obtain ⟨out, env', sto', h1, h2, h3⟩ := lcGo_ind (vs := vs) (t := t) (c := evE C c) (e := evE C e) (wipeE env1 vs) P step items [] env1 sto1 rfl h0
  refine ⟨out, sto', ?_, h3⟩
  show bnd (evI C src s) _ = _
  rw [hs]
  show gd (freeOf env1 vs = true) _ = _
  rw [show ∀ m : Rs Rv, gd (freeOf env1 vs = true) m = m from fun m => if_pos hf]
  show bnd (lcGo vs t (evE C c) (evE C e) items [] ⟨env1, sto1⟩) _ = _
  rw [h1]
  show okk (Rv.new out) ⟨backE env1 env' vs, sto'⟩ = _
  rw [back_wipe h2]
end Pi

set_option Elab.async false
set_option linter.all false
set_option maxRecDepth 100000
/-! PiM1: blocks that change nothing. -/
namespace Pi
open PySem L2
theorem comp_pure {C : Cfg} {vs : List Nat} {t : T} {e src : E} {s s1 : St} {items : List D} (f : D → D) (hs : evI C src s = okk items s1) (hf : freeOf s1.env vs = true) (hl : items.length ≤ szL)
    (he : ∀ x ∈ items, ∃ env r, bindT t x (wipeE s1.env vs) = some env ∧ wipeE env vs = wipeE s1.env vs ∧ evE C e ⟨env, s1.sto⟩ = okk r ⟨env, s1.sto⟩ ∧ r.d = f x) : evE C (.comp vs e t src (.cB true)) s = okk (.new (items.map f)) s1 := by
  obtain ⟨out, sto', h1, p, h2, h3, h4⟩ := comp_ev (vs := vs) (t := t) (e := e) (c := .cB true) (fun acc r sto => ∃ p, p ++ r = items ∧ acc = p.map f ∧ sto = s1.sto) hs hf ⟨[], rfl, rfl, rfl⟩ (by
    rintro x r acc sto ⟨p, e1, rfl, rfl⟩
    obtain ⟨env, rv, q1, q2, q3, q4⟩ := he x (by rw [← e1]; simp)
    refine ⟨env, q1, .inl ⟨rv, env, s1.sto, rfl, q3, q2, ?_, p ++ [x], by simp [e1], by rw [List.map_append, q4]; rfl, rfl⟩⟩
    have := congrArg List.length e1
    simp at this ⊢
    omega)
  rw [List.append_nil] at h2
  subst h2
  rw [h1, h3, h4]
theorem wipe_sub {e e' : List Sl} {vs vs2 : List Nat} (hv : ∀ i ∈ vs2, i ∈ vs) (h : wipeE e vs2 = wipeE e' vs2) : wipeE e vs = wipeE e' vs := by
  have hl : e.length = e'.length := by rw [← wipeE_length e vs2, h, wipeE_length]
  apply List.ext_getElem?
  intro i
  by_cases hi : i ∈ vs
  · by_cases hlt : i < e.length
    · have k1 : i < (wipeE e vs).length := by rw [wipeE_length]; exact hlt
      have k2 : i < (wipeE e' vs).length := by rw [wipeE_length]; omega
      rw [List.getElem?_eq_getElem k1, List.getElem?_eq_getElem k2, wipeE_in (s := (wipeE e vs)[i]) hi (List.getElem?_eq_getElem k1), wipeE_in (s := (wipeE e' vs)[i]) hi (List.getElem?_eq_getElem k2)]
    · rw [List.getElem?_eq_none (by rw [wipeE_length]; omega), List.getElem?_eq_none (by rw [wipeE_length]; omega)]
  · have hi2 : i ∉ vs2 := fun z => hi (hv i z)
    rw [wipeE_out hi, wipeE_out hi, ← wipeE_out (e := e) hi2, h, wipeE_out hi2]
/-- the inner turns of a block of two -/
theorem lc_in {C : Cfg} {vs : List Nat} {t : T} {e : E} {sto : List (List D)} (f : D → D) : ∀ (items acc : List D) (env W : List Sl), wipeE env vs = W → acc.length + items.length ≤ szL →
    (∀ x ∈ items, ∃ env' r, bindT t x W = some env' ∧ wipeE env' vs = W ∧ evE C e ⟨env', sto⟩ = okk r ⟨env', sto⟩ ∧ r.d = f x) →
    ∃ env', lcGo vs t (evE C (.cB true)) (evE C e) items acc ⟨env, sto⟩ = okk (acc ++ items.map f) ⟨env', sto⟩ ∧ wipeE env' vs = W
  | [], acc, env, W, hw, _, _ => ⟨env, by simp [lcGo], hw⟩
  | x :: r, acc, env, W, hw, hl, he => by
    obtain ⟨env1, rv, q1, q2, q3, q4⟩ := he x List.mem_cons_self
    have hl2 : acc.length < szL := by simp at hl; omega
    obtain ⟨env', h1, h2⟩ := lc_in f r (acc ++ [rv.d]) env1 W q2 (by simp at hl ⊢; omega) fun y hy => he y (List.mem_cons_of_mem _ hy)
    refine ⟨env', ?_, h2⟩
    unfold lcGo
    simp only [hw, q1]
    have : evE C (.cB true) ⟨env1, sto⟩ = okk (.val (.bl true)) ⟨env1, sto⟩ := rfl
    simp only [this, okk, q3]
    rw [show ∀ m : Rs (List D), gd (acc.length < szL) m = m from fun m => if_pos hl2]
    rw [h1, q4]
    simp
theorem comp2_pure {C : Cfg} {vs vs2 : List Nat} {t t2 : T} {e src src2 : E} {s s1 : St} {items : List D} (g : D → List D) (f : D → D) (hv : ∀ i ∈ vs2, i ∈ vs) (hs : evI C src s = okk items s1) (hf : freeOf s1.env vs = true) (hl : (items.flatMap g).length ≤ szL)
    (he : ∀ x ∈ items, ∃ env ys, bindT t x (wipeE s1.env vs) = some env ∧ wipeE env vs = wipeE s1.env vs ∧ evI C src2 ⟨env, s1.sto⟩ = okk ys ⟨env, s1.sto⟩ ∧ ys.map f = g x ∧
      ∀ y ∈ ys, ∃ env' r, bindT t2 y (wipeE env vs2) = some env' ∧ wipeE env' vs2 = wipeE env vs2 ∧ evE C e ⟨env', s1.sto⟩ = okk r ⟨env', s1.sto⟩ ∧ r.d = f y) :
    evE C (.comp2 vs vs2 e t src (.cB true) t2 src2 (.cB true)) s = okk (.new (items.flatMap g)) s1 := by
  obtain ⟨env1, sto⟩ := s1
  have go : ∀ (r p : List D) (env : List Sl), p ++ r = items → wipeE env vs = wipeE env1 vs → ∃ env', lc2Go vs vs2 t t2 (evE C (.cB true)) (evE C (.cB true)) (evE C e) (evI C src2) r (p.flatMap g) ⟨env, sto⟩ = okk (items.flatMap g) ⟨env', sto⟩ ∧ wipeE env' vs = wipeE env1 vs := by
    intro r
    induction r with
    | nil =>
      intro p env e1 hw
      rw [List.append_nil] at e1
      subst e1
      exact ⟨env, rfl, hw⟩
    | cons x r ih =>
      intro p env e1 hw
      obtain ⟨envx, ys, q1, q2, q3, q4, q5⟩ := he x (by rw [← e1]; simp)
      have hlen : (p.flatMap g).length + ys.length ≤ szL := by
        rw [← e1] at hl
        have : (g x).length = ys.length := by rw [← q4, List.length_map]
        simp [List.flatMap_append, List.flatMap_cons] at hl ⊢
        omega
      obtain ⟨env2, h1, h2⟩ := lc_in (vs := vs2) (t := t2) (e := e) (C := C) (sto := sto) f ys (p.flatMap g) envx (wipeE envx vs2) rfl hlen q5
      have h3 : wipeE env2 vs = wipeE env1 vs := by rw [← q2]; exact wipe_sub hv h2
      obtain ⟨env', h4, h5⟩ := ih (p ++ [x]) env2 (by simp [e1]) h3
      refine ⟨env', ?_, h5⟩
      unfold lc2Go
      simp only [hw, q1]
      have : evE C (.cB true) ⟨envx, sto⟩ = okk (.val (.bl true)) ⟨envx, sto⟩ := rfl
      simp only [this, okk, q3, h1]
      have e9 : (p ++ [x]).flatMap g = p.flatMap g ++ ys.map f := by simp [q4]
      rw [e9] at h4
      exact h4
  obtain ⟨env', h1, h2⟩ := go items [] env1 rfl rfl
  show bnd (evI C src s) _ = _
  rw [hs]
  show gd (freeOf env1 vs = true) _ = _
  rw [show ∀ m : Rs Rv, gd (freeOf env1 vs = true) m = m from fun m => if_pos hf]
  show bnd (lc2Go vs vs2 t t2 (evE C (.cB true)) (evE C (.cB true)) (evE C e) (evI C src2) items ([].flatMap g) ⟨env1, sto⟩) _ = _
  rw [h1]
  show okk (Rv.new _) ⟨backE env1 env' vs, sto⟩ = _
  rw [back_wipe h2]
end Pi

set_option Elab.async false
set_option linter.all false
set_option maxRecDepth 100000
/-! PiM2: blocks by a relation of items and what comes. -/
namespace Pi
open PySem L2
inductive All2 {α β : Type} (R : α → β → Prop) : List α → List β → Prop where
  | nil : All2 R [] []
  | cons {x : α} {y : β} {xs : List α} {ys : List β} (h : R x y) (t : All2 R xs ys) : All2 R (x :: xs) (y :: ys)
theorem All2.length {α β : Type} {R : α → β → Prop} {xs : List α} {ys : List β} (h : All2 R xs ys) : xs.length = ys.length := by
  induction h with
  | nil => rfl
  | cons _ _ ih => rw [List.length_cons, List.length_cons, ih]
theorem comp_rel {C : Cfg} {vs : List Nat} {t : T} {e src : E} {s s1 : St} {items outs : List D} {R : D → D → Prop} (h : All2 R items outs) (hs : evI C src s = okk items s1) (hf : freeOf s1.env vs = true) (hl : items.length ≤ szL)
    (he : ∀ x y, R x y → ∃ env r, bindT t x (wipeE s1.env vs) = some env ∧ wipeE env vs = wipeE s1.env vs ∧ evE C e ⟨env, s1.sto⟩ = okk r ⟨env, s1.sto⟩ ∧ r.d = y) : evE C (.comp vs e t src (.cB true)) s = okk (.new outs) s1 := by
  obtain ⟨out, sto', h1, ys, h2, h3, h4⟩ := comp_ev (vs := vs) (t := t) (e := e) (c := .cB true) (fun acc r sto => ∃ ys, All2 R r ys ∧ acc ++ ys = outs ∧ sto = s1.sto) hs hf ⟨outs, h, rfl, rfl⟩ (by
    rintro x r acc sto ⟨ys, a, e1, rfl⟩
    cases a with
    | @cons _ y _ ys hr t' =>
      obtain ⟨env, rv, q1, q2, q3, q4⟩ := he x y hr
      have := h.length
      refine ⟨env, q1, .inl ⟨rv, env, s1.sto, rfl, q3, q2, ?_, ys, t', by rw [q4, ← e1]; simp, rfl⟩⟩
      rw [this, ← e1] at hl
      simp at hl
      omega)
  cases h2
  rw [List.append_nil] at h3
  rw [h1, h3, h4]
theorem comp2_rel {C : Cfg} {vs vs2 : List Nat} {t t2 : T} {e src src2 : E} {s s1 : St} {items : List D} {outs : List (List D)} {R : D → List D → Prop} (h : All2 R items outs) (f : D → D) (hv : ∀ i ∈ vs2, i ∈ vs) (hs : evI C src s = okk items s1) (hf : freeOf s1.env vs = true) (hl : outs.flatten.length ≤ szL)
    (he : ∀ x gx, R x gx → ∃ env ys, bindT t x (wipeE s1.env vs) = some env ∧ wipeE env vs = wipeE s1.env vs ∧ evI C src2 ⟨env, s1.sto⟩ = okk ys ⟨env, s1.sto⟩ ∧ ys.map f = gx ∧
      ∀ y ∈ ys, ∃ env' r, bindT t2 y (wipeE env vs2) = some env' ∧ wipeE env' vs2 = wipeE env vs2 ∧ evE C e ⟨env', s1.sto⟩ = okk r ⟨env', s1.sto⟩ ∧ r.d = f y) :
    evE C (.comp2 vs vs2 e t src (.cB true) t2 src2 (.cB true)) s = okk (.new outs.flatten) s1 := by
  obtain ⟨env1, sto⟩ := s1
  have go : ∀ (r : List D) (os : List (List D)) (acc : List D) (env : List Sl), All2 R r os → acc ++ os.flatten = outs.flatten → wipeE env vs = wipeE env1 vs →
      ∃ env', lc2Go vs vs2 t t2 (evE C (.cB true)) (evE C (.cB true)) (evE C e) (evI C src2) r acc ⟨env, sto⟩ = okk outs.flatten ⟨env', sto⟩ ∧ wipeE env' vs = wipeE env1 vs := by
    intro r
    induction r with
    | nil =>
      intro os acc env a e1 hw
      cases a
      rw [List.flatten_nil, List.append_nil] at e1
      exact ⟨env, by rw [← e1]; rfl, hw⟩
    | cons x r ih =>
      intro os acc env a e1 hw
      cases a with
      | @cons _ gx _ os' hr t' =>
        obtain ⟨envx, ys, q1, q2, q3, q4, q5⟩ := he x gx hr
        have hlen : acc.length + ys.length ≤ szL := by
          rw [← e1] at hl
          have : gx.length = ys.length := by rw [← q4, List.length_map]
          simp at hl
          omega
        obtain ⟨env2, h1, h2⟩ := lc_in (vs := vs2) (t := t2) (e := e) (C := C) (sto := sto) f ys acc envx (wipeE envx vs2) rfl hlen q5
        have h3 : wipeE env2 vs = wipeE env1 vs := by rw [← q2]; exact wipe_sub hv h2
        obtain ⟨env', h4, h5⟩ := ih os' (acc ++ gx) env2 t' (by rw [← e1]; simp) h3
        refine ⟨env', ?_, h5⟩
        unfold lc2Go
        simp only [hw, q1]
        have : evE C (.cB true) ⟨envx, sto⟩ = okk (.val (.bl true)) ⟨envx, sto⟩ := rfl
        simp only [this, okk, q3, h1]
        rw [q4]
        exact h4
  obtain ⟨env', h1, h2⟩ := go items outs [] env1 h rfl rfl
  show bnd (evI C src s) _ = _
  rw [hs]
  show gd (freeOf env1 vs = true) _ = _
  rw [show ∀ m : Rs Rv, gd (freeOf env1 vs = true) m = m from fun m => if_pos hf]
  show bnd (lc2Go vs vs2 t t2 (evE C (.cB true)) (evE C (.cB true)) (evE C e) (evI C src2) items [] ⟨env1, sto⟩) _ = _
  rw [h1]
  show okk (Rv.new _) ⟨backE env1 env' vs, sto⟩ = _
  rw [back_wipe h2]
end Pi

set_option Elab.async false
set_option linter.all false
set_option maxRecDepth 100000
/-! PiM3: a meaning reckoned part by part: what comes, and the state behind, are found by unification. -/
namespace Pi
open PySem L2
section
variable {C : Cfg} {a b c x y z : E} {s s1 s2 s3 : St} {v u t : Rv} {d e : D} {ds : List D} {i : Nat}
theorem ev_cN : evE C .cN s = okk (.val .non) s := rfl
theorem ev_cB {b : Bool} : evE C (.cB b) s = okk (.val (.bl b)) s := rfl
theorem ev_cI {j : Int} : evE C (.cI j) s = okk (.val (.int j)) s := rfl
theorem ev_cS {j : Str} : evE C (.cS j) s = okk (.val (.str j)) s := rfl
/-- a local name -/
theorem ev_loc (h : Sl.at s.env i = .val d) : evE C (.loc i) s = okk (.val d) s := by
  show (match Sl.at s.env i with
    | .no => none
    | .val d => okk (.val d) s
    | .own xs => okk (.val (.lst xs)) { s with env := s.env.set i (.val (.lst xs)) } : Rs Rv) = _
  rw [h]
/-- a local name that holds a list alone: from here on it is shared -/
theorem ev_own {xs : List D} (h : Sl.at s.env i = .own xs) : evE C (.loc i) s = okk (.val (.lst xs)) { s with env := s.env.set i (.val (.lst xs)) } := by
  show (match Sl.at s.env i with
    | .no => none
    | .val d => okk (.val d) s
    | .own xs => okk (.val (.lst xs)) { s with env := s.env.set i (.val (.lst xs)) } : Rs Rv) = _
  rw [h]
theorem ev_glb {n : Str} (h : C.cst n = some d) : evE C (.glb n) s = okk (.val d) s := by
  show lift ((C.cst n).map Rv.val) s = _
  rw [h]; rfl
theorem fz_ok {m : Rs Rv} (h : m = okk v s) : fz m = okk v.d s := by rw [h]; rfl
theorem ev_bin {o : Operator} (ha : evE C a s = okk v s1) (hb : evE C b s1 = okk u s2) (h : binOp o v.d u.d = some t) : evE C (.bin o a b) s = okk t s2 := by
  show bnd (fz (evE C a s)) (fun x s => bnd (fz (evE C b s)) fun y s => lift (binOp o x y) s) = _
  rw [fz_ok ha]
  show bnd (fz (evE C b s1)) (fun y s => lift (binOp o v.d y) s) = _
  rw [fz_ok hb]
  show lift (binOp o v.d u.d) s2 = _
  rw [h]; rfl
theorem ev_neg {j : Int} (ha : evE C a s = okk (.val (.int j)) s1) : evE C (.neg a) s = okk (.val (.int (-j))) s1 := by
  show bnd (fz (evE C a s)) _ = _
  rw [fz_ok ha]; rfl
/-- and, or: the right part where it counts -/
theorem ev_andT (ha : evE C a s = okk (.val (.bl true)) s1) (hb : evE C b s1 = okk v s2) : evE C (.and a b) s = okk v s2 := by
  show bnd (evE C a s) _ = _
  rw [ha]; exact hb
theorem ev_andF (ha : evE C a s = okk (.val (.bl false)) s1) : evE C (.and a b) s = okk (.val (.bl false)) s1 := by
  show bnd (evE C a s) _ = _
  rw [ha]; rfl
theorem ev_orT (ha : evE C a s = okk (.val (.bl true)) s1) : evE C (.or a b) s = okk (.val (.bl true)) s1 := by
  show bnd (evE C a s) _ = _
  rw [ha]; rfl
theorem ev_orF (ha : evE C a s = okk (.val (.bl false)) s1) (hb : evE C b s1 = okk v s2) : evE C (.or a b) s = okk v s2 := by
  show bnd (evE C a s) _ = _
  rw [ha]; exact hb
theorem ev_not {p : Bool} (ha : evE C a s = okk (.val (.bl p)) s1) : evE C (.not a) s = okk (.val (.bl !p)) s1 := by
  show bnd (evE C a s) _ = _
  rw [ha]; rfl
theorem ev_tandT (ha : evE C a s = okk (.val (.bl true)) s1) (hb : evE C b s1 = okk v s2) : evE C (.tand a b) s = okk v s2 := by
  show bnd (evE C a s) _ = _
  rw [ha]; exact hb
theorem ev_tandF (ha : evE C a s = okk (.val (.bl false)) s1) : evE C (.tand a b) s = okk (.val (.bl false)) s1 := by
  show bnd (evE C a s) _ = _
  rw [ha]; rfl
theorem ev_torT (ha : evE C a s = okk (.val (.bl true)) s1) : evE C (.tor a b) s = okk (.val (.bl true)) s1 := by
  show bnd (evE C a s) _ = _
  rw [ha]; rfl
theorem ev_torF (ha : evE C a s = okk (.val (.bl false)) s1) (hb : evE C b s1 = okk v s2) : evE C (.tor a b) s = okk v s2 := by
  show bnd (evE C a s) _ = _
  rw [ha]; exact hb
/-- both parts are looked at, the state stays -/
theorem ev_tor {p q : Bool} (ha : evE C a s = okk (.val (.bl p)) s) (hb : p = false → evE C b s = okk (.val (.bl q)) s) : evE C (.tor a b) s = okk (.val (.bl (p || q))) s := by
  cases p with
  | true => exact ev_torT ha
  | false => exact ev_torF ha (hb rfl)
theorem ev_tand {p q : Bool} (ha : evE C a s = okk (.val (.bl p)) s) (hb : p = true → evE C b s = okk (.val (.bl q)) s) : evE C (.tand a b) s = okk (.val (.bl (p && q))) s := by
  cases p with
  | false => exact ev_tandF ha
  | true => exact ev_tandT ha (hb rfl)
theorem ev_or {p q : Bool} (ha : evE C a s = okk (.val (.bl p)) s) (hb : p = false → evE C b s = okk (.val (.bl q)) s) : evE C (.or a b) s = okk (.val (.bl (p || q))) s := by
  cases p with
  | true => exact ev_orT ha
  | false => exact ev_orF ha (hb rfl)
theorem ev_and {p q : Bool} (ha : evE C a s = okk (.val (.bl p)) s) (hb : p = true → evE C b s = okk (.val (.bl q)) s) : evE C (.and a b) s = okk (.val (.bl (p && q))) s := by
  cases p with
  | false => exact ev_andF ha
  | true => exact ev_andT ha (hb rfl)
theorem ev_tnot {p : Bool} (ha : evE C a s = okk (.val (.bl p)) s1) : evE C (.tnot a) s = okk (.val (.bl !p)) s1 := by
  show bnd (evE C a s) _ = _
  rw [ha]; rfl
theorem ev_tru {p : Bool} (ha : evE C a s = okk v s1) (h : truth v.d = some p) : evE C (.tru a) s = okk (.val (.bl p)) s1 := by
  show bnd (fz (evE C a s)) _ = _
  rw [fz_ok ha]
  show lift ((truth v.d).map _) s1 = _
  rw [h]; rfl
theorem ev_trub {p : Bool} (ha : evE C a s = okk (.val (.bl p)) s1) : evE C (.tru a) s = okk (.val (.bl p)) s1 := ev_tru ha rfl
/-- an operand that is looked at -/
theorem br_val (h : evE C a s = okk v s1) (n : ∀ k xs, a = .loc k → Sl.at s.env k ≠ .own xs) : brw a (evE C a s) s = okk (.val v.d) s1 := by
  have g : bnd (evE C a s) (fun r s => okk (Opd.val r.d) s) = okk (.val v.d) s1 := by rw [h]; rfl
  unfold brw
  split
  · split
    · rename_i k xs e
      exact absurd e (n _ _ rfl)
    · exact g
  · exact g
theorem br_loc (h : Sl.at s.env i = .val d) : brw (.loc i) (evE C (.loc i) s) s = okk (.val d) s := br_val (v := .val d) (ev_loc h) fun k xs e z => by cases e; rw [h] at z; cases z
theorem br_slot {xs : List D} (h : Sl.at s.env i = .own xs) : brw (.loc i) (evE C (.loc i) s) s = okk (.slot i) s := by
  unfold brw
  simp only [h]
def isLoc : E → Bool
  | .loc _ => true | _ => false
theorem br_ex (h : evE C a s = okk v s1) (n : isLoc a = false) : brw a (evE C a s) s = okk (.val v.d) s1 := br_val h fun k xs e => by rw [e] at n; cases n
def isRef : D → Bool
  | .ref _ => true | _ => false
theorem get_val (h : isRef d = false) : (Opd.val d).get s = some d := by
  cases d <;> first | rfl | cases h
theorem ev_cmp {o : CmpOp} {od : Opd} {p : Bool} (ha : evE C a s = okk v s1) (hb : brw b (evE C b s1) s1 = okk od s2) (hg : od.get s2 = some d) (h : cmpOp o v.d d = some p) : evE C (.cmp o a b) s = okk (.val (.bl p)) s2 := by
  show bnd (fz (evE C a s)) _ = _
  rw [fz_ok ha]
  show bnd (brw b (evE C b s1) s1) _ = _
  rw [hb]
  show lift ((od.get s2).bind _) s2 = _
  rw [hg, Option.bind_some, h]; rfl
/-- o between two that are no names of changing lists -/
theorem ev_cmpv {o : CmpOp} {p : Bool} (ha : evE C a s = okk v s1) (hb : evE C b s1 = okk (.val d) s2) (hn : ∀ k xs, b = .loc k → Sl.at s1.env k ≠ .own xs) (hr : isRef d = false) (h : cmpOp o v.d d = some p) : evE C (.cmp o a b) s = okk (.val (.bl p)) s2 :=
  ev_cmp ha (br_val hb hn) (get_val hr) h
theorem ev_cmpc {o : CmpOp} {p : Bool} (ha : evE C a s = okk v s1) (hb : evE C b s1 = okk u s2) (hn : isLoc b = false) (hr : isRef u.d = false) (h : cmpOp o v.d u.d = some p) : evE C (.cmp o a b) s = okk (.val (.bl p)) s2 :=
  ev_cmp ha (br_ex hb hn) (get_val hr) h
theorem ev_cmpl {o : CmpOp} {p : Bool} (ha : evE C a s = okk v s1) (hb : Sl.at s1.env i = .val d) (hr : isRef d = false) (h : cmpOp o v.d d = some p) : evE C (.cmp o a (.loc i)) s = okk (.val (.bl p)) s1 :=
  ev_cmp ha (br_loc hb) (get_val hr) h
theorem ev_isN (ha : evE C a s = okk v s1) : evE C (.isN a) s = okk (.val (.bl (isNon v.d))) s1 := by
  show bnd (fz (evE C a s)) _ = _
  rw [fz_ok ha]; rfl
theorem ev_notN (ha : evE C a s = okk v s1) : evE C (.notN a) s = okk (.val (.bl (!isNon v.d))) s1 := by
  show bnd (fz (evE C a s)) _ = _
  rw [fz_ok ha]; rfl
theorem ev_isi {ty : Ty} {p : Bool} (ha : evE C a s = okk v s1) (h : isTy v.d ty = some p) : evE C (.isi a ty) s = okk (.val (.bl p)) s1 := by
  show bnd (fz (evE C a s)) _ = _
  rw [fz_ok ha]
  show lift ((isTy v.d ty).map _) s1 = _
  rw [h]; rfl
theorem ev_iteT (hc : evE C c s = okk (.val (.bl true)) s1) (ha : evE C a s1 = okk v s2) : evE C (.ite c a b) s = okk v s2 := by
  show bnd (evE C c s) _ = _
  rw [hc]; exact ha
theorem ev_iteF (hc : evE C c s = okk (.val (.bl false)) s1) (hb : evE C b s1 = okk v s2) : evE C (.ite c a b) s = okk v s2 := by
  show bnd (evE C c s) _ = _
  rw [hc]; exact hb
theorem el_nil : evL C .nil s = okk [] s := rfl
theorem el_cons (ha : evE C a s = okk v s1) (hr : evL C b s1 = okk ds s2) : evL C (.cons a b) s = okk (v.d :: ds) s2 := by
  show bnd (fz (evE C a s)) _ = _
  rw [fz_ok ha]
  show bnd (evL C b s1) _ = _
  rw [hr]; rfl
theorem el_one (ha : evE C a s = okk v s1) : evL C (.cons a .nil) s = okk [v.d] s1 := el_cons ha el_nil
theorem el_two (ha : evE C a s = okk v s1) (hb : evE C b s1 = okk u s2) : evL C (.cons a (.cons b .nil)) s = okk [v.d, u.d] s2 := el_cons ha (el_one hb)
theorem el_three (ha : evE C a s = okk v s1) (hb : evE C b s1 = okk u s2) (hc : evE C c s2 = okk t s3) : evL C (.cons a (.cons b (.cons c .nil))) s = okk [v.d, u.d, t.d] s3 := el_cons ha (el_two hb hc)
theorem ev_tup (h : evL C a s = okk ds s1) (hl : ds.length ≤ 1000) : evE C (.tup a) s = okk (.val (.tup ds)) s1 := by
  show bnd (evL C a s) _ = _
  rw [h]
  exact if_pos (Nat.le_trans hl (by decide))
theorem ev_lst (h : evL C a s = okk ds s1) (hl : ds.length ≤ 1000) : evE C (.lst a) s = okk (.new ds) s1 := by
  show bnd (evL C a s) _ = _
  rw [h]
  exact if_pos (Nat.le_trans hl (by decide))
theorem ev_idx {od : Opd} {k : D} (ha : brw a (evE C a s) s = okk od s1) (hi : evE C b s1 = okk u s2) (hg : od.get s2 = some d) (h : idxOp d u.d = some e) : evE C (.idx a b) s = okk (.val e) s2 := by
  show bnd (brw a (evE C a s) s) _ = _
  rw [ha]
  show bnd (fz (evE C b s1)) _ = _
  rw [fz_ok hi]
  show lift ((od.get s2).bind _) s2 = _
  rw [hg, Option.bind_some, h]; rfl
/-- the j-th of what a name holds -/
theorem ev_idxl {j : Int} (ha : Sl.at s.env i = .val d) (hr : isRef d = false) (h : idxOp d (.int j) = some e) : evE C (.idx (.loc i) (.cI j)) s = okk (.val e) s :=
  ev_idx (k := .non) (br_loc ha) (ev_cI (j := j)) (get_val hr) h
theorem ev_call {f : Str} {sto : List (List D)} (h : evL C a s = okk ds s1) (hf : C.fns f ds s1.sto = some (.ok v, sto)) : evE C (.call f a) s = okk v { s1 with sto := sto } := by
  rw [evCall, h]
  show callR (C.fns f) ds s1 = _
  unfold callR
  rw [hf]; rfl
/-- a call that keeps the store -/
theorem ev_callp {f : Str} (h : evL C a s = okk ds s1) (hf : C.fns f ds s1.sto = some (.ok v, s1.sto)) : evE C (.call f a) s = okk v s1 := ev_call h hf
theorem ev_callx {f : Str} {sto : List (List D)} {x : Xc} (h : evL C a s = okk ds s1) (hf : C.fns f ds s1.sto = some (.error x, sto)) : evE C (.call f a) s = some (.error x, { s1 with sto := sto }) := by
  rw [evCall, h]
  show callR (C.fns f) ds s1 = _
  unfold callR
  rw [hf]
theorem ev_blt {f : Bi} (h : evL C a s = okk ds s1) (hf : biOp f ds = some v) : evE C (.blt f a) s = okk v s1 := by
  show bnd (evL C a s) _ = _
  rw [h]
  show lift (biOp f ds) s1 = _
  rw [hf]; rfl
theorem ev_len {od : Opd} (ha : brw a (evE C a s) s = okk od s1) (hg : od.get s1 = some d) (h : biOp .len [d] = some v) : evE C (.len a) s = okk v s1 := by
  show bnd (brw a (evE C a s) s) _ = _
  rw [ha]
  show lift ((od.get s1).bind _) s1 = _
  rw [hg, Option.bind_some, h]; rfl
theorem ev_slc {od : Opd} {lo hi : Option Int} {s4 : St} (ha : brw a (evE C a s) s = okk od s1) (hl : evO C b s1 = okk lo s2) (hh : evO C c s2 = okk hi s3) (hg : od.get s3 = some d) (h : slcOp d lo hi = some v) : evE C (.slc a b c) s = okk v s3 := by
  show bnd (brw a (evE C a s) s) _ = _
  rw [ha]
  show bnd (evO C b s1) _ = _
  rw [hl]
  show bnd (evO C c s2) _ = _
  rw [hh]
  show lift ((od.get s3).bind _) s3 = _
  rw [hg, Option.bind_some, h]; rfl
theorem eo_no : evO C .no s = okk none s := rfl
theorem eo_yes {j : Int} (h : evE C a s = okk (.val (.int j)) s1) : evO C (.yes a) s = okk (some j) s1 := by
  show bnd (fz (evE C a s)) _ = _
  rw [fz_ok h]; rfl
theorem ei_itr (h : evE C a s = okk v s1) (hi : items1 v.d = some ds) : evI C (.itr a) s = okk ds s1 := by
  show bnd (fz (evE C a s)) _ = _
  rw [fz_ok h]
  show lift (items1 v.d) s1 = _
  rw [hi]; rfl
theorem ei_zip (h : evE C a s = okk v s1) (h2 : evE C b s1 = okk u s2) (hi : zipD v.d u.d = some ds) : evI C (.zip2 a b) s = okk ds s2 := by
  show bnd (fz (evE C a s)) _ = _
  rw [fz_ok h]
  show bnd (fz (evE C b s1)) _ = _
  rw [fz_ok h2]
  show lift (zipD v.d u.d) s2 = _
  rw [hi]; rfl
theorem ei_rng (h : evE C a s = okk v s1) (hi : rng1 v.d = some ds) : evI C (.rng1 a) s = okk ds s1 := by
  show bnd (fz (evE C a s)) _ = _
  rw [fz_ok h]
  show lift (rng1 v.d) s1 = _
  rw [hi]; rfl
theorem ev_lset (h : evE C a s = okk v s1) (hi : lsetOp v.d = some u) : evE C (.lset a) s = okk u s1 := by
  show bnd (fz (evE C a s)) _ = _
  rw [fz_ok h]
  show lift (lsetOp v.d) s1 = _
  rw [hi]; rfl
/-- a lambda that ends well; one that raises -/
theorem ev_lam {w n : Str} {j : Nat} (h0 : (s.sto[j]?).bind isMk = some n) (h : evE C a s = okk v s1) (hw : C.wrd w none = some d) : evE C (.lam w n j a) s = okk (.val d) s1 := by
  show gd ((s.sto[j]?).bind isMk = some n) _ = _
  rw [show ∀ m : Rs Rv, gd ((s.sto[j]?).bind isMk = some n) m = m from fun m => if_pos h0, h]
  show lift ((C.wrd w none).map Rv.val) s1 = _
  rw [hw]; rfl
theorem ev_lamx {w n : Str} {j : Nat} {x : Xc} (h0 : (s.sto[j]?).bind isMk = some n) (h : evE C a s = some (.error x, s1)) (hw : C.wrd w (some x) = some d) : evE C (.lam w n j a) s = okk (.val d) s1 := by
  show gd ((s.sto[j]?).bind isMk = some n) _ = _
  rw [show ∀ m : Rs Rv, gd ((s.sto[j]?).bind isMk = some n) m = m from fun m => if_pos h0, h]
  show lift ((C.wrd w (some x)).map Rv.val) s1 = _
  rw [hw]; rfl
end
section
variable {C : Cfg} {a b c : E} {A B : S} {s s1 s2 : St} {v : Rv} {d : D} {fl : Fl} {i : Nat} {x : Xc}
theorem ex_skip : exS C .skip s = okk .nx s := rfl
theorem ex_seq (h : exS C A s = okk .nx s1) (h2 : exS C B s1 = okk fl s2) : exS C (.seq A B) s = okk fl s2 := (seq_nx h).trans h2
/-- what ends a row of statements -/
theorem ex_ret {r : Rv} (h : exS C A s = okk (.ret r) s1) : exS C (.seq A B) s = okk (.ret r) s1 := by
  show bnd (exS C A s) _ = _
  rw [h]; rfl
theorem ex_brk (h : exS C A s = okk .brk s1) : exS C (.seq A B) s = okk .brk s1 := by
  show bnd (exS C A s) _ = _
  rw [h]; rfl
theorem ex_cnt (h : exS C A s = okk .cnt s1) : exS C (.seq A B) s = okk .cnt s1 := by
  show bnd (exS C A s) _ = _
  rw [h]; rfl
theorem ex_err (h : exS C A s = some (.error x, s1)) : exS C (.seq A B) s = some (.error x, s1) := by
  show bnd (exS C A s) _ = _
  rw [h]; rfl
/-- a datum stored in a name -/
theorem ex_set (h : evE C a s = okk (.val d) s1) (hi : i < s1.env.length) : exS C (.set (.nm i) a) s = okk .nx { s1 with env := s1.env.set i (.val d) } := by
  show bnd (evE C a s) _ = _
  rw [h]
  show (match setT (.nm i) (.val d) s1 with | none => none | some s => okk .nx s : Rs Fl) = _
  have : setT (.nm i) (.val d) s1 = some { s1 with env := s1.env.set i (.val d) } := by
    show (gd (i < s1.env.length) (some (s1.env.set i (.val d)))).map _ = _
    rw [show ∀ m : Option (List Sl), gd (i < s1.env.length) m = m from fun m => if_pos hi]; rfl
  rw [this]
/-- a new list stored in a name -/
theorem ex_setN {xs : List D} (h : evE C a s = okk (.new xs) s1) (hi : i < s1.env.length) : exS C (.set (.nm i) a) s = okk .nx { s1 with env := s1.env.set i (.own xs) } := by
  show bnd (evE C a s) _ = _
  rw [h]
  show (match setT (.nm i) (.new xs) s1 with | none => none | some s => okk .nx s : Rs Fl) = _
  have : setT (.nm i) (.new xs) s1 = some { s1 with env := s1.env.set i (.own xs) } := if_pos hi
  rw [this]
theorem ex_setT {t : T} {env : List Sl} (h : evE C a s = okk v s1) (hn : ∀ i, t ≠ .nm i) (hb : bindT t v.d s1.env = some env) : exS C (.set t a) s = okk .nx { s1 with env := env } := by
  show bnd (evE C a s) _ = _
  rw [h]
  show (match setT t v s1 with | none => none | some s => okk .nx s : Rs Fl) = _
  have : setT t v s1 = some { s1 with env := env } := by
    have e : setT t v s1 = (bindT t v.d s1.env).map fun env => { s1 with env := env } := by
      cases t with
      | nm i => exact absurd rfl (hn i)
      | nil => cases v <;> rfl
      | cons t r => cases v <;> rfl
    rw [e, hb]; rfl
  rw [this]
theorem ex_setx (t : T) (h : evE C a s = some (.error x, s1)) : exS C (.set t a) s = some (.error x, s1) := by
  show bnd (evE C a s) _ = _
  rw [h]; rfl
theorem ex_exp (h : evE C a s = okk v s1) : exS C (.exp a) s = okk .nx s1 := by
  show bnd (evE C a s) _ = _
  rw [h]; rfl
theorem ex_expx (h : evE C a s = some (.error x, s1)) : exS C (.exp a) s = some (.error x, s1) := by
  show bnd (evE C a s) _ = _
  rw [h]; rfl
theorem ex_iteT (hc : evE C c s = okk (.val (.bl true)) s1) : exS C (.ite c A B) s = exS C A s1 := by
  show bnd (evE C c s) _ = _
  rw [hc]; rfl
theorem ex_iteF (hc : evE C c s = okk (.val (.bl false)) s1) : exS C (.ite c A B) s = exS C B s1 := by
  show bnd (evE C c s) _ = _
  rw [hc]; rfl
/-- a test that does not hold, nothing else -/
theorem ex_if0 (hc : evE C c s = okk (.val (.bl false)) s1) : exS C (.ite c A .skip) s = okk .nx s1 := ex_iteF hc
theorem ex_retv (h : evE C a s = okk v s1) (n : ∀ k xs, a = .loc k → Sl.at s.env k ≠ .own xs) : exS C (.ret a) s = okk (.ret v) s1 := by
  have g : bnd (evE C a s) (fun r s => okk (Fl.ret r) s) = okk (.ret v) s1 := by rw [h]; rfl
  cases a with
  | loc k =>
    show bnd (match Sl.at s.env k with
      | .own xs => okk (.new xs) { s with env := s.env.set k .no }
      | _ => evE C (.loc k) s) _ = _
    cases e : Sl.at s.env k with
    | own xs => exact absurd e (n _ _ rfl)
    | no => exact g
    | val d => exact g
  | _ => exact g
theorem ex_rete (h : evE C a s = okk v s1) (n : isLoc a = false) : exS C (.ret a) s = okk (.ret v) s1 := ex_retv h fun k xs e => by rw [e] at n; cases n
theorem ex_retl (h : Sl.at s.env i = .val d) : exS C (.ret (.loc i)) s = okk (.ret (.val d)) s := ex_retv (ev_loc h) fun k xs e z => by cases e; rw [h] at z; cases z
theorem ex_reto {xs : List D} (h : Sl.at s.env i = .own xs) : exS C (.ret (.loc i)) s = okk (.ret (.new xs)) { s with env := s.env.set i .no } := by
  show bnd (match Sl.at s.env i with
      | .own xs => okk (.new xs) { s with env := s.env.set i .no }
      | _ => evE C (.loc i) s) _ = _
  rw [h]; rfl
theorem ex_for {t : T} {src : E} {items : List D} (h : evI C src s = okk items s1) : exS C (.for t src A) s = forGo t (exS C A) items s1 := for_ex h
theorem ex_raise {n : Str} : exS C (.raise n) s = some (.error ⟨n, []⟩, s) := rfl
/-- a def's end -/
theorem fn_ret {M : Md} {n : Str} {f : Fn} {k : Nat} {ds : List D} {sto : List (List D)} {r : Rv} {env1 : List Sl} {sto1 : List (List D)} (h : tbl M.tb n = some f) (hl : ds.length = f.nps) (he : exS (cfg M k) f.body ⟨ds.map .val ++ List.replicate (f.nsl - f.nps) .no, sto⟩ = okk (.ret r) ⟨env1, sto1⟩) : (cfg M (k + 1)).fns n ds sto = some (.ok r, sto1) := by
  rw [fns_at h, run1 hl, he]; rfl
theorem fn_nx {M : Md} {n : Str} {f : Fn} {k : Nat} {ds : List D} {sto : List (List D)} {env1 : List Sl} {sto1 : List (List D)} (h : tbl M.tb n = some f) (hl : ds.length = f.nps) (he : exS (cfg M k) f.body ⟨ds.map .val ++ List.replicate (f.nsl - f.nps) .no, sto⟩ = okk .nx ⟨env1, sto1⟩) : (cfg M (k + 1)).fns n ds sto = some (.ok (.val .non), sto1) := by
  rw [fns_at h, run1 hl, he]; rfl
theorem fn_err {M : Md} {n : Str} {f : Fn} {k : Nat} {ds : List D} {sto : List (List D)} {x : Xc} {env1 : List Sl} {sto1 : List (List D)} (h : tbl M.tb n = some f) (hl : ds.length = f.nps) (he : exS (cfg M k) f.body ⟨ds.map .val ++ List.replicate (f.nsl - f.nps) .no, sto⟩ = some (.error x, ⟨env1, sto1⟩)) : (cfg M (k + 1)).fns n ds sto = some (.error x, sto1) := by
  rw [fns_at h, run1 hl, he]; rfl
end
theorem rng1_nat {n : Nat} (h : small62 (n : Int)) : rng1 (.int (n : Int)) = some ((List.range n).map fun (i : Nat) => D.int i) := by
  have e : rng1 (.int (n : Int)) = gd (small62 (n : Int)) (some ((List.range (n : Int).toNat).map fun i => D.int (i : Nat))) := rfl
  rw [e, show ∀ m : Option (List D), gd (small62 (n : Int)) m = m from fun m => if_pos h, Int.toNat_natCast]
theorem evI_rng1 {C : Cfg} {a : E} {s s1 : St} {x : D} {l : List D} (h : evE C a s = okk (.val x) s1) (hr : rng1 x = some l) : evI C (.rng1 a) s = okk l s1 := by
  show bnd (fz (evE C a s)) (fun x s => lift (rng1 x) s) = _
  rw [h]
  show lift (rng1 x) s1 = _
  rw [hr]; rfl
end Pi

set_option Elab.async false
set_option linter.all false
set_option maxRecDepth 100000
/-! PiM4: blocks over a list that is laid out by a function. -/
namespace Pi
open PySem L2
theorem all2_map {α : Type} {g h : α → D} : ∀ xs : List α, All2 (fun a b => ∃ x ∈ xs, a = g x ∧ b = h x) (xs.map g) (xs.map h) := by
  have go : ∀ (ys xs : List α), (∀ y ∈ ys, y ∈ xs) → All2 (fun a b => ∃ x ∈ xs, a = g x ∧ b = h x) (ys.map g) (ys.map h) := by
    intro ys
    induction ys with
    | nil => exact fun _ _ => .nil
    | cons y ys ih => exact fun xs hy => .cons ⟨y, hy y List.mem_cons_self, rfl, rfl⟩ (ih xs fun z hz => hy z (List.mem_cons_of_mem _ hz))
  exact fun xs => go xs xs fun _ h => h
/-- [h(x) for x in xs] -/
theorem comp_map {α : Type} {C : Cfg} {vs : List Nat} {t : T} {e src : E} {s s1 : St} {xs : List α} {g : α → D} (h : α → D) (hs : evI C src s = okk (xs.map g) s1) (hf : freeOf s1.env vs = true) (hl : xs.length ≤ 1000000)
    (he : ∀ x ∈ xs, ∃ env r, bindT t (g x) (wipeE s1.env vs) = some env ∧ wipeE env vs = wipeE s1.env vs ∧ evE C e ⟨env, s1.sto⟩ = okk r ⟨env, s1.sto⟩ ∧ r.d = h x) : evE C (.comp vs e t src (.cB true)) s = okk (.new (xs.map h)) s1 := by
  refine comp_rel (all2_map xs) hs hf (by rw [List.length_map]; exact Nat.le_trans hl (by decide)) ?_
  rintro a b ⟨x, hx, rfl, rfl⟩
  exact he x hx
/-- [h(x) for x in xs if p(x)] -/
theorem comp_filt {α : Type} {C : Cfg} {vs : List Nat} {t : T} {e src c : E} {s s1 : St} {xs : List α} {g : α → D} (p : α → Bool) (h : α → D) (hs : evI C src s = okk (xs.map g) s1) (hf : freeOf s1.env vs = true) (hl : xs.length ≤ 1000000)
    (he : ∀ x ∈ xs, ∃ env, bindT t (g x) (wipeE s1.env vs) = some env ∧ wipeE env vs = wipeE s1.env vs ∧ evE C c ⟨env, s1.sto⟩ = okk (.val (.bl (p x))) ⟨env, s1.sto⟩ ∧ (p x = true → ∃ r, evE C e ⟨env, s1.sto⟩ = okk r ⟨env, s1.sto⟩ ∧ r.d = h x)) :
    evE C (.comp vs e t src c) s = okk (.new ((xs.filter p).map h)) s1 := by
  obtain ⟨out, sto', h1, ys, hy, h3, h4⟩ := comp_ev (vs := vs) (t := t) (e := e) (c := c) (fun acc r sto => ∃ ys : List α, (∀ y ∈ ys, y ∈ xs) ∧ r = ys.map g ∧ (acc ++ (ys.filter p).map h = (xs.filter p).map h ∧ acc.length + ys.length ≤ xs.length) ∧ sto = s1.sto) hs hf ⟨xs, fun _ h => h, rfl, ⟨rfl, by simp⟩, rfl⟩ (by
    rintro x r acc sto ⟨ys, hy, e1, ⟨e2, e3⟩, rfl⟩
    cases ys with
    | nil => cases e1
    | cons y ys =>
      cases e1
      obtain ⟨env, q1, q2, q3, q4⟩ := he y (hy y List.mem_cons_self)
      have hy' : ∀ z ∈ ys, z ∈ xs := fun z hz => hy z (List.mem_cons_of_mem _ hz)
      refine ⟨env, q1, ?_⟩
      rw [List.length_cons] at e3
      cases hp : p y with
      | true =>
        rw [hp] at q3
        obtain ⟨r, q5, q6⟩ := q4 hp
        rw [List.filter_cons, if_pos hp] at e2
        refine .inl ⟨r, env, s1.sto, q3, q5, q2, ?_, ys, hy', rfl, ⟨?_, ?_⟩, rfl⟩
        · have : (1000000 : Nat) < szL := by decide
          omega
        · rw [q6, ← e2]; simp
        · rw [List.length_append, List.length_singleton]; omega
      | false =>
        rw [hp] at q3
        rw [List.filter_cons, if_neg (by rw [hp]; simp)] at e2
        exact .inr ⟨q3, q2, ys, hy', rfl, ⟨e2, by omega⟩, rfl⟩)
  rw [h1]
  have : ys = [] := by
    cases ys with
    | nil => rfl
    | cons => cases h3
  subst this
  obtain ⟨⟨h4, _⟩, rfl⟩ := h4
  rw [List.filter_nil, List.map_nil, List.append_nil] at h4
  rw [h4]
end Pi

set_option Elab.async false
set_option linter.all false
set_option maxRecDepth 100000
/-! PiM5: two names at once, a list added to, a def's lists told apart. -/
namespace Pi
open PySem L2
section
variable {C : Cfg} {a b c : E} {A B : S} {s s1 s2 : St} {v u : Rv} {d : D} {i j : Nat}
theorem er_nil : evRs C .nil s = okk [] s := rfl
theorem er_cons {rs : List Rv} (ha : evE C a s = okk v s1) (hr : evRs C b s1 = okk rs s2) : evRs C (.cons a b) s = okk (v :: rs) s2 := by
  show bnd (evE C a s) _ = _
  rw [ha]
  show bnd (evRs C b s1) _ = _
  rw [hr]; rfl
theorem ex_par {ts : List Nat} {rs : List Rv} (h : evRs C a s = okk rs s1) (hs : setAll ts rs s1 = some s2) : exS C (.par ts a) s = okk .nx s2 := by
  show bnd (evRs C a s) _ = _
  rw [h]
  show (match setAll ts rs s1 with | none => none | some s => okk .nx s : Rs Fl) = _
  rw [hs]
/-- xs.append(a) where a name holds the list alone -/
theorem ex_app {xs : List D} (h : Sl.at s.env i = .own xs) (ha : evE C a s = okk v s1) (h1 : Sl.at s1.env i = .own xs) (hl : xs.length ≤ 1000000) : exS C (.exp (.mth .append (.loc i) (.cons a .nil))) s = okk .nx { s1 with env := s1.env.set i (.own (xs ++ [v.d])) } := by
  have e : evE C (.mth .append (.loc i) (.cons a .nil)) s = okk (.val .non) { s1 with env := s1.env.set i (.own (xs ++ [v.d])) } := by
    show bnd (brw (.loc i) (evE C (.loc i) s) s) _ = _
    rw [br_slot h]
    show (match lstOf ((Opd.slot i).get s) with
      | none => none
      | some _ => bnd (evL C (.cons a .nil) s) _ : Rs Rv) = _
    have g : (Opd.slot i).get s = some (.lst xs) := by
      show (match Sl.at s.env i with | .own xs => some (D.lst xs) | _ => none) = _
      rw [h]
    have g1 : (Opd.slot i).get s1 = some (.lst xs) := by
      show (match Sl.at s1.env i with | .own xs => some (D.lst xs) | _ => none) = _
      rw [h1]
    rw [g, show lstOf (some (.lst xs)) = some xs from rfl, el_one ha]
    show (match (lstOf ((Opd.slot i).get s1)).bind fun xs => mtOp .append xs [v.d] with
      | none => none
      | some (r, ys) => match (Opd.slot i).put ys s1 with
        | none => none
        | some s' => okk (.val r) s' : Rs Rv) = _
    rw [g1, show lstOf (some (.lst xs)) = some xs from rfl, Option.bind_some]
    have m : mtOp .append xs [v.d] = some (.non, xs ++ [v.d]) := if_pos (Nat.lt_of_le_of_lt hl (by decide))
    rw [m]
    show (match (Opd.slot i).put (xs ++ [v.d]) s1 with
        | none => none
        | some s' => okk (.val .non) s' : Rs Rv) = _
    have p : (Opd.slot i).put (xs ++ [v.d]) s1 = some { s1 with env := s1.env.set i (.own (xs ++ [v.d])) } := by
      show (match Sl.at s1.env i with | .own _ => some { s1 with env := s1.env.set i (.own (xs ++ [v.d])) } | _ => none) = _
      rw [h1]
    rw [p]
  exact ex_exp e
end
end Pi

set_option Elab.async false
set_option linter.all false
set_option maxRecDepth 100000
/-! LibT: readings of defs that many laws have alike, with what each leans on (printed by gen.py .. lib). -/
namespace Lib
open PySem L2 Pi
def i_is_int : Fn := ⟨1, 1,
  (.seq (.ret (.and (.isi (.loc 0) .int) (.not (.isi (.loc 0) .bool))))
  .skip)⟩
class H_is_int (M : Md) : Prop where
  tb_is_int : tbl M.tb "is_int" = some i_is_int
def i_is_within : Fn := ⟨3, 3,
  (.seq (.ret (.and (.call "is_int" (.cons (.loc 0) .nil)) (.cmp2 .LtE .LtE (.loc 1) (.loc 0) (.loc 2))))
  .skip)⟩
class H_is_within (M : Md) : Prop extends H_is_int M where
  tb_is_within : tbl M.tb "is_within" = some i_is_within
def b_divisor_1 : S := (.seq (.par [0, 1] (.cons (.loc 1) (.cons (.bin .Sub (.loc 0) (.bin .Mult (.bin .FloorDiv (.loc 0) (.loc 1)) (.loc 1))) .nil)))
  .skip)
def i_divisor : Fn := ⟨2, 2,
  (.seq (.whl (.cmp .NotEq (.loc 1) (.cI 0))
  b_divisor_1)
  (.seq (.ret (.blt .abs (.cons (.loc 0) .nil)))
  .skip))⟩
class H_divisor (M : Md) : Prop where
  tb_divisor : tbl M.tb "divisor" = some i_divisor
def i_fraction : Fn := ⟨2, 3,
  (.seq (.ite (.cmp .Eq (.loc 1) (.cI 1))
  (.seq (.ret (.tup (.cons (.loc 0) (.cons (.cI 1) .nil))))
  .skip)
  .skip)
  (.seq (.set (.nm 2) (.call "divisor" (.cons (.loc 0) (.cons (.loc 1) .nil))))
  (.seq (.ite (.cmp .Lt (.loc 1) (.cI 0))
  (.seq (.set (.nm 2) (.neg (.loc 2)))
  .skip)
  .skip)
  (.seq (.ret (.tup (.cons (.bin .FloorDiv (.loc 0) (.loc 2)) (.cons (.bin .FloorDiv (.loc 1) (.loc 2)) .nil))))
  .skip))))⟩
class H_fraction (M : Md) : Prop extends H_divisor M where
  tb_fraction : tbl M.tb "fraction" = some i_fraction
def i_is_fraction : Fn := ⟨1, 1,
  (.seq (.ite (.tor (.tnot (.tru (.isi (.loc 0) .tuple))) (.tor (.cmp .NotEq (.len (.loc 0)) (.cI 2)) (.tor (.tnot (.tru (.call "is_int" (.cons (.idx (.loc 0) (.cI 0)) .nil)))) (.tnot (.tru (.call "is_int" (.cons (.idx (.loc 0) (.cI 1)) .nil)))))))
  (.seq (.ret (.cB false))
  .skip)
  .skip)
  (.seq (.ret (.and (.cmp .GtE (.idx (.loc 0) (.cI 1)) (.cI 1)) (.cmp .Eq (.call "divisor" (.cons (.idx (.loc 0) (.cI 0)) (.cons (.idx (.loc 0) (.cI 1)) .nil))) (.cI 1))))
  .skip))⟩
class H_is_fraction (M : Md) : Prop extends H_divisor M, H_is_int M where
  tb_is_fraction : tbl M.tb "is_fraction" = some i_is_fraction
def i_add : Fn := ⟨2, 2,
  (.seq (.ite (.cmp .Eq (.idx (.loc 0) (.cI 1)) (.idx (.loc 1) (.cI 1)))
  (.seq (.ret (.call "fraction" (.cons (.bin .Add (.idx (.loc 0) (.cI 0)) (.idx (.loc 1) (.cI 0))) (.cons (.idx (.loc 0) (.cI 1)) .nil))))
  .skip)
  .skip)
  (.seq (.ret (.call "fraction" (.cons (.bin .Add (.bin .Mult (.idx (.loc 0) (.cI 0)) (.idx (.loc 1) (.cI 1))) (.bin .Mult (.idx (.loc 1) (.cI 0)) (.idx (.loc 0) (.cI 1)))) (.cons (.bin .Mult (.idx (.loc 0) (.cI 1)) (.idx (.loc 1) (.cI 1))) .nil))))
  .skip))⟩
class H_add (M : Md) : Prop extends H_fraction M where
  tb_add : tbl M.tb "add" = some i_add
def i_is_less : Fn := ⟨2, 2,
  (.seq (.ret (.cmp .Lt (.bin .Mult (.idx (.loc 0) (.cI 0)) (.idx (.loc 1) (.cI 1))) (.bin .Mult (.idx (.loc 1) (.cI 0)) (.idx (.loc 0) (.cI 1)))))
  .skip)⟩
class H_is_less (M : Md) : Prop where
  tb_is_less : tbl M.tb "is_less" = some i_is_less
def b_total_1 : S := (.seq (.set (.nm 1) (.call "add" (.cons (.loc 1) (.cons (.loc 2) .nil))))
  .skip)
def i_total : Fn := ⟨1, 3,
  (.seq (.set (.nm 1) (.glb "ZERO"))
  (.seq (.for (.nm 2) (.itr (.loc 0))
  b_total_1)
  (.seq (.ret (.loc 1))
  .skip)))⟩
class C_ZERO (M : Md) : Prop where
  cs_ZERO : M.cs.lookup ("ZERO" : Str) = some (.tup [.int 0, .int 1] : D)
class H_total (M : Md) : Prop extends H_add M, C_ZERO M where
  tb_total : tbl M.tb "total" = some i_total
def i_is_share : Fn := ⟨1, 1,
  (.seq (.ret (.and (.call "is_fraction" (.cons (.loc 0) .nil)) (.cmp2 .LtE .LtE (.cI 0) (.idx (.loc 0) (.cI 0)) (.idx (.loc 0) (.cI 1)))))
  .skip)⟩
class H_is_share (M : Md) : Prop extends H_is_fraction M where
  tb_is_share : tbl M.tb "is_share" = some i_is_share
def i_is_bound : Fn := ⟨1, 1,
  (.seq (.ret (.and (.call "is_share" (.cons (.loc 0) .nil)) (.cmp .LtE (.idx (.loc 0) (.cI 1)) (.glb "MOST_UNDER"))))
  .skip)⟩
class C_MOST_UNDER (M : Md) : Prop where
  cs_MOST_UNDER : M.cs.lookup ("MOST_UNDER" : Str) = some (.int 1000 : D)
class H_is_bound (M : Md) : Prop extends H_is_share M, C_MOST_UNDER M where
  tb_is_bound : tbl M.tb "is_bound" = some i_is_bound
def i_is_part_alone : Fn := ⟨1, 1,
  (.seq (.ite (.tor (.tnot (.tru (.isi (.loc 0) .tuple))) (.cmp .NotEq (.len (.loc 0)) (.cI 3)))
  (.seq (.ret (.cB false))
  .skip)
  .skip)
  (.seq (.ret (.and (.call "is_bound" (.cons (.idx (.loc 0) (.cI 0)) .nil)) (.and (.call "is_bound" (.cons (.idx (.loc 0) (.cI 1)) .nil)) (.not (.call "is_less" (.cons (.idx (.loc 0) (.cI 1)) (.cons (.idx (.loc 0) (.cI 0)) .nil)))))))
  .skip))⟩
class H_is_part_alone (M : Md) : Prop extends H_is_bound M, H_is_less M where
  tb_is_part_alone : tbl M.tb "is_part_alone" = some i_is_part_alone
def c_found_bins_1 : E := (.cmp .In (.loc 5) (.loc 2))
def b_found_bins_1 : S := (.seq (.set (.nm 4) (.ite (.tru (.call "is_part_alone" (.cons (.loc 3) .nil))) (.call "found_bins" (.cons (.idx (.loc 3) (.cI 2)) (.cons (.bin .Sub (.loc 1) (.cI 1)) .nil))) .cN))
  (.seq (.ite (.tor (.isN (.loc 4)) (.tru (.blt .any (.cons (.comp [5] c_found_bins_1 (.nm 5) (.itr (.loc 4)) (.cB true)) .nil))))
  (.seq (.ret .cN)
  .skip)
  .skip)
  (.seq (.set (.nm 2) (.bin .Add (.loc 2) (.loc 4)))
  .skip)))
def c_found_bins_2 : E := (.idx (.loc 3) (.cI 0))
def c_found_bins_3 : E := (.idx (.loc 3) (.cI 1))
def i_found_bins : Fn := ⟨2, 6,
  (.seq (.ite (.tru (.call "is_within" (.cons (.loc 0) (.cons (.cI 0) (.cons (.glb "MOST_BIN") .nil)))))
  (.seq (.ret (.lst (.cons (.loc 0) .nil)))
  .skip)
  .skip)
  (.seq (.ite (.tor (.cmp .Eq (.loc 1) (.cI 0)) (.tor (.tnot (.tru (.isi (.loc 0) .tuple))) (.tnot (.cmp2 .LtE .LtE (.cI 1) (.len (.loc 0)) (.glb "MOST_PARTS")))))
  (.seq (.ret .cN)
  .skip)
  .skip)
  (.seq (.set (.nm 2) (.lst .nil))
  (.seq (.for (.nm 3) (.itr (.loc 0))
  b_found_bins_1)
  (.seq (.ite (.tor (.tru (.call "is_less" (.cons (.glb "ONE") (.cons (.call "total" (.cons (.comp [3] c_found_bins_2 (.nm 3) (.itr (.loc 0)) (.cB true)) .nil)) .nil)))) (.tru (.call "is_less" (.cons (.call "total" (.cons (.comp [3] c_found_bins_3 (.nm 3) (.itr (.loc 0)) (.cB true)) .nil)) (.cons (.glb "ONE") .nil)))))
  (.seq (.ret .cN)
  .skip)
  .skip)
  (.seq (.ret (.loc 2))
  .skip))))))⟩
class C_MOST_BIN (M : Md) : Prop where
  cs_MOST_BIN : M.cs.lookup ("MOST_BIN" : Str) = some (.int 7 : D)
class C_MOST_PARTS (M : Md) : Prop where
  cs_MOST_PARTS : M.cs.lookup ("MOST_PARTS" : Str) = some (.int 8 : D)
class C_ONE (M : Md) : Prop where
  cs_ONE : M.cs.lookup ("ONE" : Str) = some (.tup [.int 1, .int 1] : D)
class H_found_bins (M : Md) : Prop extends H_is_less M, H_is_part_alone M, H_is_within M, H_total M, C_MOST_BIN M, C_MOST_PARTS M, C_ONE M where
  tb_found_bins : tbl M.tb "found_bins" = some i_found_bins
def i_is_recipe : Fn := ⟨1, 1,
  (.seq (.ret (.notN (.call "found_bins" (.cons (.loc 0) (.cons (.glb "MOST_DEPTH") .nil)))))
  .skip)⟩
class C_MOST_DEPTH (M : Md) : Prop where
  cs_MOST_DEPTH : M.cs.lookup ("MOST_DEPTH" : Str) = some (.int 6 : D)
class H_is_recipe (M : Md) : Prop extends H_found_bins M, C_MOST_DEPTH M where
  tb_is_recipe : tbl M.tb "is_recipe" = some i_is_recipe
def i_check_recipe : Fn := ⟨1, 1,
  (.seq (.ite (.tnot (.tru (.call "is_recipe" (.cons (.loc 0) .nil))))
  (.seq (.raise "BadRecipe")
  .skip)
  .skip)
  .skip)⟩
class H_check_recipe (M : Md) : Prop extends H_is_recipe M where
  tb_check_recipe : tbl M.tb "check_recipe" = some i_check_recipe
def i_recipe_bins : Fn := ⟨1, 3,
  (.seq (.ite (.tru (.call "is_int" (.cons (.loc 0) .nil)))
  (.seq (.ret (.lst (.cons (.loc 0) .nil)))
  .skip)
  .skip)
  (.seq (.ret (.comp2 [1, 2] [2] (.loc 2) (.nm 1) (.itr (.loc 0)) (.cB true) (.nm 2) (.itr (.call "recipe_bins" (.cons (.idx (.loc 1) (.cI 2)) .nil))) (.cB true)))
  .skip))⟩
class H_recipe_bins (M : Md) : Prop extends H_is_int M where
  tb_recipe_bins : tbl M.tb "recipe_bins" = some i_recipe_bins
def c_exchanged_1 : E := (.tup (.cons (.idx (.loc 3) (.cI 0)) (.cons (.idx (.loc 3) (.cI 1)) (.cons (.call "exchanged" (.cons (.idx (.loc 3) (.cI 2)) (.cons (.loc 1) (.cons (.loc 2) .nil)))) .nil))))
def i_exchanged : Fn := ⟨3, 4,
  (.seq (.ite (.tru (.call "is_int" (.cons (.loc 0) .nil)))
  (.seq (.ret (.ite (.cmp .Eq (.loc 0) (.loc 1)) (.loc 2) (.loc 0)))
  .skip)
  .skip)
  (.seq (.ret (.blt .tuple (.cons (.comp [3] c_exchanged_1 (.nm 3) (.itr (.loc 0)) (.cB true)) .nil)))
  .skip))⟩
class H_exchanged (M : Md) : Prop extends H_is_int M where
  tb_exchanged : tbl M.tb "exchanged" = some i_exchanged
def i_put : Fn := ⟨3, 4,
  (.seq (.exp (.call "check_recipe" (.cons (.loc 0) .nil)))
  (.seq (.ite (.tor (.tnot (.tru (.call "is_int" (.cons (.loc 1) .nil)))) (.cmp .NotIn (.loc 1) (.call "recipe_bins" (.cons (.loc 0) .nil))))
  (.seq (.raise "NoBin")
  .skip)
  .skip)
  (.seq (.exp (.call "check_recipe" (.cons (.loc 2) .nil)))
  (.seq (.set (.nm 3) (.call "exchanged" (.cons (.loc 0) (.cons (.loc 1) (.cons (.loc 2) .nil)))))
  (.seq (.exp (.call "check_recipe" (.cons (.loc 3) .nil)))
  (.seq (.ret (.loc 3))
  .skip))))))⟩
class H_put (M : Md) : Prop extends H_check_recipe M, H_exchanged M, H_is_int M, H_recipe_bins M where
  tb_put : tbl M.tb "put" = some i_put
def i__law_draw : Fn := ⟨2, 5,
  (.seq (.ite (.tand (.cmp .Eq (.idx (.loc 0) (.cI 2)) (.cI 0)) (.cmp .Lt (.idx (.loc 0) (.cI 1)) (.len (.idx (.loc 0) (.cI 0)))))
  (.seq (.set (.nm 3) (.idx (.idx (.loc 0) (.cI 0)) (.idx (.loc 0) (.cI 1))))
  (.seq (.put (.loc 0) (.cI 1) (.bin .Add (.idx (.loc 0) (.cI 1)) (.cI 1)))
  (.seq (.put (.loc 0) (.cI 3) (.bin .Mod (.blt .int (.cons (.bin .Add (.bin .Add (.bin .Mult (.idx (.loc 0) (.cI 3)) (.cI 69621)) (.bin .Mult (.loc 3) (.cI 40692))) (.cI 733)) .nil)) (.cI 2147483629)))
  (.seq (.ite (.cmp .GtE (.loc 3) (.bin .Pow (.cI 10) (.cI 18)))
  (.seq (.put (.loc 0) (.cI 2) (.loc 3))
  .skip)
  .skip)
  .skip))))
  .skip)
  (.seq (.ite (.cmp .Gt (.idx (.loc 0) (.cI 2)) (.cI 0))
  (.seq (.set (.nm 4) (.bin .Mod (.blt .int (.cons (.idx (.loc 0) (.cI 2)) .nil)) (.loc 1)))
  (.seq (.put (.loc 0) (.cI 2) (.bin .FloorDiv (.idx (.loc 0) (.cI 2)) (.loc 1)))
  (.seq (.ret (.loc 4))
  .skip)))
  .skip)
  (.seq (.put (.loc 0) (.cI 4) (.bin .Add (.idx (.loc 0) (.cI 4)) (.cI 1)))
  (.seq (.set (.nm 2) (.bin .Mod (.blt .int (.cons (.bin .Mult (.blt .int (.cons (.bin .Add (.idx (.loc 0) (.cI 3)) (.bin .Mult (.cI 7919) (.idx (.loc 0) (.cI 4)))) .nil)) (.cI 48271)) .nil)) (.cI 2147483647)))
  (.seq (.set (.nm 2) (.bin .Mod (.blt .int (.cons (.bin .Mult (.loc 2) (.bin .Add (.bin .FloorDiv (.loc 2) (.cI 1009)) (.cI 69621))) .nil)) (.cI 2147483647)))
  (.seq (.set (.nm 2) (.bin .Mod (.blt .int (.cons (.bin .Mult (.loc 2) (.bin .Add (.bin .FloorDiv (.loc 2) (.cI 2003)) (.cI 40014))) .nil)) (.cI 2147483563)))
  (.seq (.ret (.bin .Mod (.blt .int (.cons (.bin .FloorDiv (.loc 2) (.cI 16)) .nil)) (.loc 1)))
  .skip)))))))⟩
class H__law_draw (M : Md) : Prop where
  tb__law_draw : tbl M.tb "_law_draw" = some i__law_draw
def i__law_any : Fn := ⟨2, 2,
  (.seq (.ret (.idx (.loc 1) (.call "_law_draw" (.cons (.loc 0) (.cons (.len (.loc 1)) .nil)))))
  .skip)⟩
class H__law_any (M : Md) : Prop extends H__law_draw M where
  tb__law_any : tbl M.tb "_law_any" = some i__law_any
def b__law_frac_1 : S := (.seq (.par [2, 3] (.cons (.loc 3) (.cons (.bin .Mod (.blt .int (.cons (.loc 2) .nil)) (.loc 3)) .nil)))
  .skip)
def i__law_frac : Fn := ⟨2, 4,
  (.seq (.par [2, 3] (.cons (.blt .abs (.cons (.loc 0) .nil)) (.cons (.loc 1) .nil)))
  (.seq (.whl (.cmp .Gt (.loc 3) (.cI 0))
  b__law_frac_1)
  (.seq (.ret (.tup (.cons (.bin .FloorDiv (.loc 0) (.loc 2)) (.cons (.bin .FloorDiv (.loc 1) (.loc 2)) .nil))))
  .skip)))⟩
class H__law_frac (M : Md) : Prop where
  tb__law_frac : tbl M.tb "_law_frac" = some i__law_frac
def b__law_recipe_1 : S := (.seq (.set (.nm 14) (.ite (.cmp .Eq (.bin .Add (.loc 7) (.cI 1)) (.loc 4)) (.len (.loc 5)) (.bin .Add (.cI 1) (.call "_law_draw" (.cons (.loc 0) (.cons (.bin .Sub (.len (.loc 5)) (.bin .Sub (.bin .Sub (.loc 4) (.loc 7)) (.cI 1))) .nil))))))
  (.seq (.par [6, 5] (.cons (.bin .Add (.loc 6) (.lst (.cons (.slc (.loc 5) .no (.yes (.loc 14))) .nil))) (.cons (.slc (.loc 5) (.yes (.loc 14)) .no) .nil)))
  .skip))
def c__law_recipe_1 : E := (.call "_law_draw" (.cons (.loc 0) (.cons (.bin .Add (.loc 8) (.cI 1)) .nil)))
def c__law_recipe_2 : E := (.bin .Sub (.loc 19) (.loc 18))
def b__law_recipe_2 : S := (.seq (.set (.nm 15) (.call "_law_any" (.cons (.loc 0) (.cons (.lst (.cons (.cI 0) (.cons (.cI 0) (.cons (.loc 12) (.cons (.call "_law_draw" (.cons (.loc 0) (.cons (.bin .Add (.loc 12) (.cI 1)) .nil))) (.cons (.call "_law_draw" (.cons (.loc 0) (.cons (.bin .Add (.loc 12) (.cI 1)) .nil))) .nil)))))) .nil))))
  (.seq (.set (.nm 16) (.bin .Add (.loc 12) (.call "_law_draw" (.cons (.loc 0) (.cons (.bin .Add (.bin .Sub (.loc 8) (.loc 12)) (.cI 1)) .nil)))))
  (.seq (.set (.nm 16) (.call "_law_any" (.cons (.loc 0) (.cons (.lst (.cons (.loc 8) (.cons (.loc 8) (.cons (.loc 12) (.cons (.loc 16) (.cons (.loc 16) .nil)))))) .nil))))
  (.seq (.set (.nm 17) (.call "_law_recipe" (.cons (.loc 0) (.cons (.bin .Sub (.loc 1) (.cI 1)) (.cons (.loc 13) (.cons (.loc 3) .nil))))))
  (.seq (.exp (.mth .append (.loc 11) (.cons (.tup (.cons (.call "_law_frac" (.cons (.loc 15) (.cons (.loc 8) .nil))) (.cons (.call "_law_frac" (.cons (.loc 16) (.cons (.loc 8) .nil))) (.cons (.loc 17) .nil)))) .nil)))
  .skip)))))
def i__law_recipe : Fn := ⟨4, 20,
  (.seq (.ite (.tor (.cmp .Eq (.loc 1) (.cI 0)) (.tand (.cmp .Eq (.len (.loc 2)) (.cI 1)) (.cmp .Gt (.call "_law_draw" (.cons (.loc 0) (.cons (.cI 3) .nil))) (.cI 0))))
  (.seq (.ret (.idx (.loc 2) (.cI 0)))
  .skip)
  .skip)
  (.seq (.par [4, 5, 6] (.cons (.blt .min (.cons (.len (.loc 2)) (.cons (.call "_law_any" (.cons (.loc 0) (.cons (.lst (.cons (.cI 1) (.cons (.cI 2) (.cons (.cI 2) (.cons (.cI 3) (.cons (.cI 3) (.cons (.cI 4) .nil))))))) .nil))) .nil))) (.cons (.blt .list (.cons (.loc 2) .nil)) (.cons (.lst .nil) .nil))))
  (.seq (.for (.nm 7) (.rng1 (.loc 4))
  b__law_recipe_1)
  (.seq (.set (.nm 8) (.call "_law_any" (.cons (.loc 0) (.cons (.loc 3) .nil))))
  (.seq (.set (.nm 9) (.blt .sorted (.cons (.comp [7] c__law_recipe_1 (.nm 7) (.rng1 (.bin .Sub (.loc 4) (.cI 1))) (.cB true)) .nil)))
  (.seq (.set (.nm 10) (.comp [18, 19] c__law_recipe_2 (.cons (.nm 18) (.cons (.nm 19) .nil)) (.zip2 (.bin .Add (.lst (.cons (.cI 0) .nil)) (.loc 9)) (.bin .Add (.loc 9) (.lst (.cons (.loc 8) .nil)))) (.cB true)))
  (.seq (.set (.nm 11) (.lst .nil))
  (.seq (.for (.cons (.nm 12) (.cons (.nm 13) .nil)) (.zip2 (.loc 10) (.loc 6))
  b__law_recipe_2)
  (.seq (.ret (.blt .tuple (.cons (.loc 11) .nil)))
  .skip)))))))))⟩
class H__law_recipe (M : Md) : Prop extends H__law_any M, H__law_draw M, H__law_frac M where
  tb__law_recipe : tbl M.tb "_law_recipe" = some i__law_recipe
def c__law_drawn_1 : E := (.mth .pop (.loc 3) (.cons (.call "_law_draw" (.cons (.loc 0) (.cons (.len (.loc 3)) .nil))) .nil))
def i__law_drawn : Fn := ⟨3, 8,
  (.seq (.par [3, 4] (.cons (.rlst1 (.loc 2)) (.cons (.lst (.cons (.cI 1) (.cons (.cI 2) (.cons (.cI 3) (.cons (.cI 4) (.cons (.cI 5) (.cons (.cI 6) (.cons (.cI 8) (.cons (.cI 12) (.cons (.cI 60) (.cons (.cI 997) (.cons (.cI 1000) .nil)))))))))))) .nil)))
  (.seq (.set (.nm 5) (.call "_law_any" (.cons (.loc 0) (.cons (.lst (.cons (.loc 2) (.cons (.loc 2) (.cons (.bin .Add (.cI 1) (.call "_law_draw" (.cons (.loc 0) (.cons (.loc 2) .nil)))) .nil)))) .nil))))
  (.seq (.set (.nm 6) (.comp [7] c__law_drawn_1 (.nm 7) (.rng1 (.loc 5)) (.cB true)))
  (.seq (.ret (.call "_law_recipe" (.cons (.loc 0) (.cons (.call "_law_any" (.cons (.loc 0) (.cons (.lst (.cons (.loc 1) (.cons (.loc 1) (.cons (.bin .Add (.cI 1) (.call "_law_draw" (.cons (.loc 0) (.cons (.loc 1) .nil)))) .nil)))) .nil))) (.cons (.loc 6) (.cons (.loc 4) .nil))))))
  .skip))))⟩
class H__law_drawn (M : Md) : Prop extends H__law_any M, H__law_draw M, H__law_recipe M where
  tb__law_drawn : tbl M.tb "_law_drawn" = some i__law_drawn
def c__law_bins_1 : E := (.call "_law_bins" (.cons (.loc 3) .nil))
def i__law_bins : Fn := ⟨1, 4,
  (.seq (.ret (.ite (.tru (.isi (.loc 0) .int)) (.lst (.cons (.loc 0) .nil)) (.blt .sum (.cons (.comp [1, 2, 3] c__law_bins_1 (.cons (.nm 1) (.cons (.nm 2) (.cons (.nm 3) .nil))) (.itr (.loc 0)) (.cB true)) (.cons (.lst .nil) .nil)))))
  .skip)⟩
class H__law_bins (M : Md) : Prop where
  tb__law_bins : tbl M.tb "_law_bins" = some i__law_bins
def i__law_is : Fn := ⟨2, 2,
  (.seq (.ret (.cmp .Eq (.blt .repr (.cons (.loc 0) .nil)) (.blt .repr (.cons (.loc 1) .nil))))
  .skip)⟩
class H__law_is (M : Md) : Prop where
  tb__law_is : tbl M.tb "_law_is" = some i__law_is
def c__law_depth_1 : E := (.call "_law_depth" (.cons (.loc 3) .nil))
def i__law_depth : Fn := ⟨1, 4,
  (.seq (.ret (.ite (.tru (.isi (.loc 0) .int)) (.cI 0) (.bin .Add (.cI 1) (.blt .max (.cons (.comp [1, 2, 3] c__law_depth_1 (.cons (.nm 1) (.cons (.nm 2) (.cons (.nm 3) .nil))) (.itr (.loc 0)) (.cB true)) .nil)))))
  .skip)⟩
class H__law_depth (M : Md) : Prop where
  tb__law_depth : tbl M.tb "_law_depth" = some i__law_depth
def i__law_odd : Fn := ⟨1, 4,
  (.seq (.par [1, 2] (.cons (.tup (.cons (.cI 0) (.cons (.cI 1) .nil))) (.cons (.tup (.cons (.cI 1) (.cons (.cI 1) .nil))) .nil)))
  (.seq (.set (.nm 3) (.lst (.cons .cN (.cons (.neg (.cI 1)) (.cons (.cI 8) (.cons (.cB true) (.cons (.cS "0") (.cons (.tup .nil) (.cons (.tup (.cons (.tup (.cons (.loc 1) (.cons (.loc 2) .nil))) .nil)) (.cons (.tup (.cons (.tup (.cons (.loc 2) (.cons (.loc 1) (.cons (.cI 0) .nil)))) .nil)) (.cons (.tup (.cons (.tup (.cons (.loc 1) (.cons (.loc 2) (.cons (.cI 0) .nil)))) (.cons (.tup (.cons (.loc 1) (.cons (.loc 2) (.cons (.cI 0) .nil)))) .nil))) .nil)))))))))))
  (.seq (.set (.nm 3) (.bin .Add (.loc 3) (.lst (.cons (.lst (.cons (.tup (.cons (.loc 1) (.cons (.loc 2) (.cons (.cI 0) .nil)))) .nil)) (.cons (.tup (.cons (.tup (.cons (.loc 1) (.cons (.tup (.cons (.cI 1) (.cons (.cI 2) .nil))) (.cons (.cI 0) .nil)))) (.cons (.tup (.cons (.loc 1) (.cons (.tup (.cons (.cI 1) (.cons (.cI 3) .nil))) (.cons (.cI 1) .nil)))) .nil))) (.cons (.tup (.cons (.tup (.cons (.loc 1) (.cons (.loc 2) (.cons (.cI 9) .nil)))) .nil)) .nil))))))
  (.seq (.exp (.mth .append (.loc 3) (.cons (.tup (.cons (.tup (.cons (.loc 2) (.cons (.loc 2) (.cons (.cI 0) .nil)))) (.cons (.tup (.cons (.tup (.cons (.cI 1) (.cons (.cI 1001) .nil))) (.cons (.loc 2) (.cons (.cI 1) .nil)))) .nil))) .nil)))
  (.seq (.set (.nm 3) (.bin .Add (.loc 3) (.lst (.cons (.tup (.cons (.tup (.cons (.tup (.cons (.cI 0) (.cons (.cI 2) .nil))) (.cons (.loc 2) (.cons (.cI 0) .nil)))) .nil)) (.cons (.tup (.cons (.tup (.cons (.tup (.cons (.cI 1) (.cons (.cI 2) .nil))) (.cons (.tup (.cons (.cI 3) (.cons (.cI 2) .nil))) (.cons (.cI 0) .nil)))) .nil)) (.cons (.tup (.cons (.tup (.cons (.loc 1) (.cons (.loc 2) (.cons (.tup .nil) .nil)))) .nil)) .nil))))))
  (.seq (.ret (.call "_law_any" (.cons (.loc 0) (.cons (.loc 3) .nil))))
  .skip))))))⟩
class H__law_odd (M : Md) : Prop extends H__law_any M where
  tb__law_odd : tbl M.tb "_law_odd" = some i__law_odd
def b__law_chain_1 : S := (.seq (.set (.nm 0) (.tup (.cons (.tup (.cons (.tup (.cons (.cI 0) (.cons (.cI 1) .nil))) (.cons (.tup (.cons (.cI 1) (.cons (.cI 1) .nil))) (.cons (.loc 0) .nil)))) .nil)))
  .skip)
def i__law_chain : Fn := ⟨2, 3,
  (.seq (.for (.nm 2) (.rng1 (.loc 1))
  b__law_chain_1)
  (.seq (.ret (.loc 0))
  .skip))⟩
class H__law_chain (M : Md) : Prop where
  tb__law_chain : tbl M.tb "_law_chain" = some i__law_chain
def c__law_put_1 : E := (.tup (.cons (.loc 3) (.cons (.loc 4) (.cons (.call "_law_put" (.cons (.loc 5) (.cons (.loc 1) (.cons (.loc 2) .nil)))) .nil))))
def i__law_put : Fn := ⟨3, 6,
  (.seq (.ite (.tru (.isi (.loc 0) .int))
  (.seq (.ret (.ite (.cmp .Eq (.loc 0) (.loc 1)) (.loc 2) (.loc 0)))
  .skip)
  .skip)
  (.seq (.ret (.blt .tuple (.cons (.comp [3, 4, 5] c__law_put_1 (.cons (.nm 3) (.cons (.nm 4) (.cons (.nm 5) .nil))) (.itr (.loc 0)) (.cB true)) .nil)))
  .skip))⟩
class H__law_put (M : Md) : Prop where
  tb__law_put : tbl M.tb "_law_put" = some i__law_put
def c_is_prices_1 : E := (.call "is_fraction" (.cons (.loc 1) .nil))
def i_is_prices : Fn := ⟨1, 2,
  (.seq (.ite (.tor (.tnot (.tru (.isi (.loc 0) .tuple))) (.tnot (.cmp2 .LtE .LtE (.cI 1) (.len (.loc 0)) (.glb "MOST_PRICES"))))
  (.seq (.ret (.cB false))
  .skip)
  .skip)
  (.seq (.ret (.blt .all (.cons (.comp [1] c_is_prices_1 (.nm 1) (.itr (.loc 0)) (.cB true)) .nil)))
  .skip))⟩
class C_MOST_PRICES (M : Md) : Prop where
  cs_MOST_PRICES : M.cs.lookup ("MOST_PRICES" : Str) = some (.int 8 : D)
class H_is_prices (M : Md) : Prop extends H_is_fraction M, C_MOST_PRICES M where
  tb_is_prices : tbl M.tb "is_prices" = some i_is_prices
def i_check_prices : Fn := ⟨2, 2,
  (.seq (.exp (.call "check_recipe" (.cons (.loc 0) .nil)))
  (.seq (.ite (.tor (.tnot (.tru (.call "is_prices" (.cons (.loc 1) .nil)))) (.cmp .GtE (.blt .max (.cons (.call "recipe_bins" (.cons (.loc 0) .nil)) .nil)) (.len (.loc 1))))
  (.seq (.raise "BadPrices")
  .skip)
  .skip)
  .skip))⟩
class H_check_prices (M : Md) : Prop extends H_check_recipe M, H_is_prices M, H_recipe_bins M where
  tb_check_prices : tbl M.tb "check_prices" = some i_check_prices
def i_negative : Fn := ⟨1, 1,
  (.seq (.ret (.tup (.cons (.neg (.idx (.loc 0) (.cI 0))) (.cons (.idx (.loc 0) (.cI 1)) .nil))))
  .skip)⟩
class H_negative (M : Md) : Prop where
  tb_negative : tbl M.tb "negative" = some i_negative
def i_less_by : Fn := ⟨2, 2,
  (.seq (.ret (.call "add" (.cons (.loc 0) (.cons (.call "negative" (.cons (.loc 1) .nil)) .nil))))
  .skip)⟩
class H_less_by (M : Md) : Prop extends H_add M, H_negative M where
  tb_less_by : tbl M.tb "less_by" = some i_less_by
def i_product : Fn := ⟨2, 2,
  (.seq (.ite (.tor (.cmp .Eq (.idx (.loc 0) (.cI 0)) (.cI 0)) (.cmp .Eq (.idx (.loc 1) (.cI 0)) (.cI 0)))
  (.seq (.ret (.glb "ZERO"))
  .skip)
  .skip)
  (.seq (.ret (.call "fraction" (.cons (.bin .Mult (.idx (.loc 0) (.cI 0)) (.idx (.loc 1) (.cI 0))) (.cons (.bin .Mult (.idx (.loc 0) (.cI 1)) (.idx (.loc 1) (.cI 1))) .nil))))
  .skip))⟩
class H_product (M : Md) : Prop extends H_fraction M, C_ZERO M where
  tb_product : tbl M.tb "product" = some i_product
def i_lesser : Fn := ⟨2, 2,
  (.seq (.ret (.ite (.tru (.call "is_less" (.cons (.loc 1) (.cons (.loc 0) .nil)))) (.loc 1) (.loc 0)))
  .skip)⟩
class H_lesser (M : Md) : Prop extends H_is_less M where
  tb_lesser : tbl M.tb "lesser" = some i_lesser
def b_multiple_1 : S := (.seq (.ite (.cmp .NotEq (.bin .Mult (.bin .FloorDiv (.loc 1) (.loc 2)) (.loc 2)) (.loc 1))
  (.seq (.set (.nm 1) (.bin .Mult (.bin .FloorDiv (.loc 1) (.call "divisor" (.cons (.loc 1) (.cons (.loc 2) .nil)))) (.loc 2)))
  .skip)
  .skip)
  .skip)
def i_multiple : Fn := ⟨1, 3,
  (.seq (.set (.nm 1) (.cI 1))
  (.seq (.for (.nm 2) (.itr (.loc 0))
  b_multiple_1)
  (.seq (.ret (.loc 1))
  .skip)))⟩
class H_multiple (M : Md) : Prop extends H_divisor M where
  tb_multiple : tbl M.tb "multiple" = some i_multiple
def c_dot_1 : E := (.call "product" (.cons (.loc 2) (.cons (.loc 3) .nil)))
def i_dot : Fn := ⟨2, 4,
  (.seq (.ret (.call "total" (.cons (.comp [2, 3] c_dot_1 (.cons (.nm 2) (.cons (.nm 3) .nil)) (.zip2 (.loc 0) (.loc 1)) (.cB true)) .nil)))
  .skip)⟩
class H_dot (M : Md) : Prop extends H_product M, H_total M where
  tb_dot : tbl M.tb "dot" = some i_dot
def c_by_value_1 : E := (.idx (.loc 4) (.cI 1))
def c_by_value_2 : E := (.loc 3)
def c_by_value_3 : E := (.tup (.cons (.bin .Mult (.idx (.loc 4) (.cI 0)) (.bin .FloorDiv (.loc 1) (.idx (.loc 4) (.cI 1)))) (.cons (.loc 3) .nil)))
def i_by_value : Fn := ⟨1, 5,
  (.seq (.set (.nm 1) (.call "multiple" (.cons (.comp [4] c_by_value_1 (.nm 4) (.itr (.loc 0)) (.cB true)) .nil)))
  (.seq (.ret (.comp [2, 3] c_by_value_2 (.cons (.nm 2) (.cons (.nm 3) .nil)) (.itr (.blt .sorted (.cons (.comp [3, 4] c_by_value_3 (.cons (.nm 3) (.cons (.nm 4) .nil)) (.enm (.loc 0)) (.cB true)) .nil))) (.cB true)))
  .skip))⟩
class H_by_value (M : Md) : Prop extends H_multiple M where
  tb_by_value : tbl M.tb "by_value" = some i_by_value
def c_filled_1 : E := (.idx (.loc 7) (.cI 0))
def b_filled_1 : S := (.seq (.ite (.tor (.isN (.loc 4)) (.cmp .Gt (.idx (.loc 3) (.cI 0)) (.cI 0)))
  (.seq (.set (.nm 4) (.idx (.loc 1) (.loc 5)))
  .skip)
  .skip)
  (.seq (.set (.nm 6) (.call "lesser" (.cons (.loc 3) (.cons (.call "less_by" (.cons (.idx (.idx (.loc 0) (.loc 5)) (.cI 1)) (.cons (.idx (.idx (.loc 0) (.loc 5)) (.cI 0)) .nil))) .nil))))
  (.seq (.put (.loc 2) (.loc 5) (.call "add" (.cons (.idx (.loc 2) (.loc 5)) (.cons (.loc 6) .nil))))
  (.seq (.set (.nm 3) (.call "less_by" (.cons (.loc 3) (.cons (.loc 6) .nil))))
  .skip))))
def i_filled : Fn := ⟨2, 8,
  (.seq (.set (.nm 2) (.comp [7] c_filled_1 (.nm 7) (.itr (.loc 0)) (.cB true)))
  (.seq (.par [3, 4] (.cons (.call "less_by" (.cons (.glb "ONE") (.cons (.call "total" (.cons (.loc 2) .nil)) .nil))) (.cons .cN .nil)))
  (.seq (.for (.nm 5) (.itr (.call "by_value" (.cons (.loc 1) .nil)))
  b_filled_1)
  (.seq (.ret (.tup (.cons (.loc 2) (.cons (.loc 4) .nil))))
  .skip))))⟩
class H_filled (M : Md) : Prop extends H_add M, H_by_value M, H_less_by M, H_lesser M, H_total M, C_ONE M where
  tb_filled : tbl M.tb "filled" = some i_filled
def c_least_cost_1 : E := (.call "least_cost" (.cons (.idx (.loc 3) (.cI 2)) (.cons (.loc 1) .nil)))
def i_least_cost : Fn := ⟨2, 4,
  (.seq (.ite (.tru (.call "is_int" (.cons (.loc 0) .nil)))
  (.seq (.ret (.idx (.loc 1) (.loc 0)))
  .skip)
  .skip)
  (.seq (.set (.nm 2) (.comp [3] c_least_cost_1 (.nm 3) (.itr (.loc 0)) (.cB true)))
  (.seq (.ret (.call "dot" (.cons (.idx (.call "filled" (.cons (.loc 0) (.cons (.loc 2) .nil))) (.cI 0)) (.cons (.loc 2) .nil))))
  .skip)))⟩
class H_least_cost (M : Md) : Prop extends H_dot M, H_filled M, H_is_int M where
  tb_least_cost : tbl M.tb "least_cost" = some i_least_cost
def c_is_paper_of_1 : E := (.call "is_paper_of" (.cons (.idx (.loc 2) (.cI 2)) (.cons (.loc 3) .nil)))
def i_is_paper_of : Fn := ⟨2, 4,
  (.seq (.ite (.tru (.call "is_int" (.cons (.loc 0) .nil)))
  (.seq (.ret (.isN (.loc 1)))
  .skip)
  .skip)
  (.seq (.ite (.tor (.tnot (.tru (.isi (.loc 1) .tuple))) (.tor (.cmp .NotEq (.len (.loc 1)) (.cI 2)) (.tnot (.tru (.call "is_fraction" (.cons (.idx (.loc 1) (.cI 0)) .nil))))))
  (.seq (.ret (.cB false))
  .skip)
  .skip)
  (.seq (.ite (.tor (.tnot (.tru (.isi (.idx (.loc 1) (.cI 1)) .tuple))) (.cmp .NotEq (.len (.idx (.loc 1) (.cI 1))) (.len (.loc 0))))
  (.seq (.ret (.cB false))
  .skip)
  .skip)
  (.seq (.ret (.blt .all (.cons (.comp [2, 3] c_is_paper_of_1 (.cons (.nm 2) (.cons (.nm 3) .nil)) (.zip2 (.loc 0) (.idx (.loc 1) (.cI 1))) (.cB true)) .nil)))
  .skip))))⟩
class H_is_paper_of (M : Md) : Prop extends H_is_fraction M, H_is_int M where
  tb_is_paper_of : tbl M.tb "is_paper_of" = some i_is_paper_of
def i_is_paper : Fn := ⟨2, 2,
  (.seq (.exp (.call "check_recipe" (.cons (.loc 0) .nil)))
  (.seq (.ret (.call "is_paper_of" (.cons (.loc 0) (.cons (.loc 1) .nil))))
  .skip))⟩
class H_is_paper (M : Md) : Prop extends H_check_recipe M, H_is_paper_of M where
  tb_is_paper : tbl M.tb "is_paper" = some i_is_paper
def b_worth_of_1 : S := (.seq (.set (.nm 8) (.call "less_by" (.cons (.call "worth_of" (.cons (.idx (.loc 6) (.cI 2)) (.cons (.loc 1) (.cons (.loc 7) .nil)))) (.cons (.loc 3) .nil))))
  (.seq (.set (.nm 5) (.call "add" (.cons (.loc 5) (.cons (.call "product" (.cons (.ite (.cmp .Gt (.idx (.loc 8) (.cI 0)) (.cI 0)) (.idx (.loc 6) (.cI 0)) (.idx (.loc 6) (.cI 1))) (.cons (.loc 8) .nil))) .nil))))
  .skip))
def i_worth_of : Fn := ⟨3, 9,
  (.seq (.ite (.tru (.call "is_int" (.cons (.loc 0) .nil)))
  (.seq (.ret (.idx (.loc 1) (.loc 0)))
  .skip)
  .skip)
  (.seq (.set (.cons (.nm 3) (.cons (.nm 4) .nil)) (.loc 2))
  (.seq (.set (.nm 5) (.loc 3))
  (.seq (.for (.cons (.nm 6) (.cons (.nm 7) .nil)) (.zip2 (.loc 0) (.loc 4))
  b_worth_of_1)
  (.seq (.ret (.loc 5))
  .skip)))))⟩
class H_worth_of (M : Md) : Prop extends H_add M, H_is_int M, H_less_by M, H_product M where
  tb_worth_of : tbl M.tb "worth_of" = some i_worth_of
def i_is_floor : Fn := ⟨3, 3,
  (.seq (.exp (.call "check_prices" (.cons (.loc 0) (.cons (.loc 1) .nil))))
  (.seq (.ret (.and (.call "is_paper_of" (.cons (.loc 0) (.cons (.loc 2) .nil))) (.cmp .Eq (.call "worth_of" (.cons (.loc 0) (.cons (.loc 1) (.cons (.loc 2) .nil)))) (.call "least_cost" (.cons (.loc 0) (.cons (.loc 1) .nil))))))
  .skip))⟩
class H_is_floor (M : Md) : Prop extends H_check_prices M, H_is_paper_of M, H_least_cost M, H_worth_of M where
  tb_is_floor : tbl M.tb "is_floor" = some i_is_floor
def c__law_paper_1 : E := (.call "_law_paper" (.cons (.loc 0) (.cons (.loc 5) .nil)))
def i__law_paper : Fn := ⟨2, 6,
  (.seq (.ite (.tru (.isi (.loc 1) .int))
  (.seq (.ret .cN)
  .skip)
  .skip)
  (.seq (.set (.nm 2) (.call "_law_frac" (.cons (.bin .Sub (.call "_law_draw" (.cons (.loc 0) (.cons (.cI 40) .nil))) (.cI 20)) (.cons (.bin .Add (.cI 1) (.call "_law_draw" (.cons (.loc 0) (.cons (.cI 9) .nil)))) .nil))))
  (.seq (.ret (.tup (.cons (.loc 2) (.cons (.blt .tuple (.cons (.comp [3, 4, 5] c__law_paper_1 (.cons (.nm 3) (.cons (.nm 4) (.cons (.nm 5) .nil))) (.itr (.loc 1)) (.cB true)) .nil)) .nil))))
  .skip)))⟩
class H__law_paper (M : Md) : Prop extends H__law_draw M, H__law_frac M where
  tb__law_paper : tbl M.tb "_law_paper" = some i__law_paper
def c__law_is_shape_1 : E := (.and (.isi (.loc 4) .int) (.not (.isi (.loc 4) .bool)))
def c__law_is_shape_2 : E := (.call "_law_is_shape" (.cons (.idx (.loc 3) (.cI 2)) (.cons (.loc 4) .nil)))
def i__law_is_shape : Fn := ⟨2, 5,
  (.seq (.ite (.tru (.isi (.loc 0) .int))
  (.seq (.ret (.isN (.loc 1)))
  .skip)
  .skip)
  (.seq (.ite (.tor (.tnot (.tru (.isi (.loc 1) .tuple))) (.cmp .NotEq (.len (.loc 1)) (.cI 2)))
  (.seq (.ret (.cB false))
  .skip)
  .skip)
  (.seq (.ite (.tor (.tnot (.tru (.isi (.idx (.loc 1) (.cI 1)) .tuple))) (.cmp .NotEq (.len (.idx (.loc 1) (.cI 1))) (.len (.loc 0))))
  (.seq (.ret (.cB false))
  .skip)
  .skip)
  (.seq (.set (.nm 2) (.idx (.loc 1) (.cI 0)))
  (.seq (.ite (.tor (.tnot (.tru (.isi (.loc 2) .tuple))) (.cmp .NotEq (.len (.loc 2)) (.cI 2)))
  (.seq (.ret (.cB false))
  .skip)
  .skip)
  (.seq (.ite (.tnot (.tru (.blt .all (.cons (.comp [4] c__law_is_shape_1 (.nm 4) (.itr (.loc 2)) (.cB true)) .nil))))
  (.seq (.ret (.cB false))
  .skip)
  .skip)
  (.seq (.ite (.tor (.cmp .Lt (.idx (.loc 2) (.cI 1)) (.cI 1)) (.cmp .NotEq (.call "_law_frac" (.cons (.idx (.loc 2) (.cI 0)) (.cons (.idx (.loc 2) (.cI 1)) .nil))) (.loc 2)))
  (.seq (.ret (.cB false))
  .skip)
  .skip)
  (.seq (.ret (.blt .all (.cons (.comp [3, 4] c__law_is_shape_2 (.cons (.nm 3) (.cons (.nm 4) .nil)) (.zip2 (.loc 0) (.idx (.loc 1) (.cI 1))) (.cB true)) .nil)))
  .skip))))))))⟩
class H__law_is_shape (M : Md) : Prop extends H__law_frac M where
  tb__law_is_shape : tbl M.tb "_law_is_shape" = some i__law_is_shape
def i__law_plus : Fn := ⟨2, 2,
  (.seq (.ret (.call "_law_frac" (.cons (.bin .Add (.bin .Mult (.idx (.loc 0) (.cI 0)) (.idx (.loc 1) (.cI 1))) (.bin .Mult (.idx (.loc 1) (.cI 0)) (.idx (.loc 0) (.cI 1)))) (.cons (.bin .Mult (.idx (.loc 0) (.cI 1)) (.idx (.loc 1) (.cI 1))) .nil))))
  .skip)⟩
class H__law_plus (M : Md) : Prop extends H__law_frac M where
  tb__law_plus : tbl M.tb "_law_plus" = some i__law_plus
def i__law_less : Fn := ⟨2, 2,
  (.seq (.ret (.cmp .Lt (.bin .Mult (.idx (.loc 0) (.cI 0)) (.idx (.loc 1) (.cI 1))) (.bin .Mult (.idx (.loc 1) (.cI 0)) (.idx (.loc 0) (.cI 1)))))
  .skip)⟩
class H__law_less (M : Md) : Prop where
  tb__law_less : tbl M.tb "_law_less" = some i__law_less
def b__law_sum_1 : S := (.seq (.set (.nm 1) (.call "_law_plus" (.cons (.loc 1) (.cons (.loc 2) .nil))))
  .skip)
def i__law_sum : Fn := ⟨1, 3,
  (.seq (.set (.nm 1) (.tup (.cons (.cI 0) (.cons (.cI 1) .nil))))
  (.seq (.for (.nm 2) (.itr (.loc 0))
  b__law_sum_1)
  (.seq (.ret (.loc 1))
  .skip)))⟩
class H__law_sum (M : Md) : Prop extends H__law_plus M where
  tb__law_sum : tbl M.tb "_law_sum" = some i__law_sum
def c__law_is_frac_1 : E := (.and (.isi (.loc 1) .int) (.not (.isi (.loc 1) .bool)))
def i__law_is_frac : Fn := ⟨1, 2,
  (.seq (.ite (.tor (.tnot (.tru (.isi (.loc 0) .tuple))) (.cmp .NotEq (.len (.loc 0)) (.cI 2)))
  (.seq (.ret (.cB false))
  .skip)
  .skip)
  (.seq (.ite (.tnot (.tru (.blt .all (.cons (.comp [1] c__law_is_frac_1 (.nm 1) (.itr (.loc 0)) (.cB true)) .nil))))
  (.seq (.ret (.cB false))
  .skip)
  .skip)
  (.seq (.ret (.and (.cmp .Gt (.idx (.loc 0) (.cI 1)) (.cI 0)) (.cmp .Eq (.call "_law_frac" (.cons (.idx (.loc 0) (.cI 0)) (.cons (.idx (.loc 0) (.cI 1)) .nil))) (.loc 0))))
  .skip)))⟩
class H__law_is_frac (M : Md) : Prop extends H__law_frac M where
  tb__law_is_frac : tbl M.tb "_law_is_frac" = some i__law_is_frac
def b__law_is_recipe_1 : S := (.seq (.ite (.tor (.tnot (.tru (.isi (.loc 2) .tuple))) (.tor (.cmp .NotEq (.len (.loc 2)) (.cI 3)) (.tor (.tnot (.tru (.call "_law_is_frac" (.cons (.idx (.loc 2) (.cI 0)) .nil)))) (.tnot (.tru (.call "_law_is_frac" (.cons (.idx (.loc 2) (.cI 1)) .nil)))))))
  (.seq (.ret (.cB false))
  .skip)
  .skip)
  (.seq (.ite (.tor (.cmp .Lt (.idx (.idx (.loc 2) (.cI 0)) (.cI 0)) (.cI 0)) (.tor (.tru (.call "_law_less" (.cons (.idx (.loc 2) (.cI 1)) (.cons (.idx (.loc 2) (.cI 0)) .nil)))) (.tru (.call "_law_less" (.cons (.tup (.cons (.cI 1) (.cons (.cI 1) .nil))) (.cons (.idx (.loc 2) (.cI 1)) .nil))))))
  (.seq (.ret (.cB false))
  .skip)
  .skip)
  (.seq (.ite (.tor (.cmp .Gt (.idx (.idx (.loc 2) (.cI 0)) (.cI 1)) (.cI 1000)) (.tor (.cmp .Gt (.idx (.idx (.loc 2) (.cI 1)) (.cI 1)) (.cI 1000)) (.tnot (.tru (.call "_law_is_recipe" (.cons (.idx (.loc 2) (.cI 2)) (.cons (.bin .Sub (.loc 1) (.cI 1)) .nil)))))))
  (.seq (.ret (.cB false))
  .skip)
  .skip)
  .skip)))
def c__law_is_recipe_1 : E := (.idx (.loc 2) (.cI 0))
def c__law_is_recipe_2 : E := (.idx (.loc 2) (.cI 1))
def i__law_is_recipe : Fn := ⟨2, 5,
  (.seq (.ite (.tru (.isi (.loc 0) .int))
  (.seq (.ret (.and (.not (.isi (.loc 0) .bool)) (.cmp2 .LtE .LtE (.cI 0) (.loc 0) (.cI 7))))
  .skip)
  .skip)
  (.seq (.ite (.tor (.tnot (.tru (.isi (.loc 0) .tuple))) (.tor (.tnot (.cmp2 .LtE .LtE (.cI 1) (.len (.loc 0)) (.cI 8))) (.cmp .Eq (.loc 1) (.cI 0))))
  (.seq (.ret (.cB false))
  .skip)
  .skip)
  (.seq (.for (.nm 2) (.itr (.loc 0))
  b__law_is_recipe_1)
  (.seq (.par [3, 4] (.cons (.call "_law_sum" (.cons (.comp [2] c__law_is_recipe_1 (.nm 2) (.itr (.loc 0)) (.cB true)) .nil)) (.cons (.call "_law_sum" (.cons (.comp [2] c__law_is_recipe_2 (.nm 2) (.itr (.loc 0)) (.cB true)) .nil)) .nil)))
  (.seq (.ret (.and (.not (.call "_law_less" (.cons (.tup (.cons (.cI 1) (.cons (.cI 1) .nil))) (.cons (.loc 3) .nil)))) (.not (.call "_law_less" (.cons (.loc 4) (.cons (.tup (.cons (.cI 1) (.cons (.cI 1) .nil))) .nil))))))
  .skip)))))⟩
class H__law_is_recipe (M : Md) : Prop extends H__law_is_frac M, H__law_less M, H__law_sum M where
  tb__law_is_recipe : tbl M.tb "_law_is_recipe" = some i__law_is_recipe
def i__law_is_whole : Fn := ⟨1, 1,
  (.seq (.ret (.and (.call "_law_is_recipe" (.cons (.loc 0) (.cons (.cI 6) .nil))) (.cmp .Eq (.lset (.call "_law_bins" (.cons (.loc 0) .nil))) (.len (.call "_law_bins" (.cons (.loc 0) .nil))))))
  .skip)⟩
class H__law_is_whole (M : Md) : Prop extends H__law_bins M, H__law_is_recipe M where
  tb__law_is_whole : tbl M.tb "_law_is_whole" = some i__law_is_whole
def c_depth_of_1 : E := (.call "depth_of" (.cons (.idx (.loc 1) (.cI 2)) .nil))
def i_depth_of : Fn := ⟨1, 2,
  (.seq (.ite (.tru (.call "is_int" (.cons (.loc 0) .nil)))
  (.seq (.ret (.cI 0))
  .skip)
  .skip)
  (.seq (.ret (.bin .Add (.cI 1) (.blt .max (.cons (.comp [1] c_depth_of_1 (.nm 1) (.itr (.loc 0)) (.cB true)) .nil))))
  .skip))⟩
class H_depth_of (M : Md) : Prop extends H_is_int M where
  tb_depth_of : tbl M.tb "depth_of" = some i_depth_of
def i_depth : Fn := ⟨1, 1,
  (.seq (.exp (.call "check_recipe" (.cons (.loc 0) .nil)))
  (.seq (.ret (.call "depth_of" (.cons (.loc 0) .nil)))
  .skip))⟩
class H_depth (M : Md) : Prop extends H_check_recipe M, H_depth_of M where
  tb_depth : tbl M.tb "depth" = some i_depth
def i_bins_of : Fn := ⟨1, 1,
  (.seq (.exp (.call "check_recipe" (.cons (.loc 0) .nil)))
  (.seq (.ret (.blt .tuple (.cons (.blt .sorted (.cons (.call "recipe_bins" (.cons (.loc 0) .nil)) .nil)) .nil)))
  .skip))⟩
class H_bins_of (M : Md) : Prop extends H_check_recipe M, H_recipe_bins M where
  tb_bins_of : tbl M.tb "bins_of" = some i_bins_of
def i_fraction_text : Fn := ⟨1, 1,
  (.seq (.ret (.ite (.cmp .Eq (.idx (.loc 0) (.cI 1)) (.cI 1)) (.blt .str (.cons (.idx (.loc 0) (.cI 0)) .nil)) (.fstr (.cons (.fmt (.idx (.loc 0) (.cI 0))) (.cons (.cS "/") (.cons (.fmt (.idx (.loc 0) (.cI 1))) .nil))))))
  .skip)⟩
class H_fraction_text (M : Md) : Prop where
  tb_fraction_text : tbl M.tb "fraction_text" = some i_fraction_text
def c_text_of_1 : E := (.fstr (.cons (.fmt (.call "fraction_text" (.cons (.idx (.loc 2) (.cI 0)) .nil))) (.cons (.cS "-") (.cons (.fmt (.call "fraction_text" (.cons (.idx (.loc 2) (.cI 1)) .nil))) (.cons (.cS " ") (.cons (.fmt (.call "text_of" (.cons (.idx (.loc 2) (.cI 2)) .nil))) .nil))))))
def i_text_of : Fn := ⟨1, 3,
  (.seq (.ite (.tru (.call "is_int" (.cons (.loc 0) .nil)))
  (.seq (.ret (.blt .str (.cons (.loc 0) .nil)))
  .skip)
  .skip)
  (.seq (.set (.nm 1) (.comp [2] c_text_of_1 (.nm 2) (.itr (.loc 0)) (.cB true)))
  (.seq (.ret (.fstr (.cons (.cS "(") (.cons (.fmt (.sth .join (.cS ", ") (.cons (.loc 1) .nil))) (.cons (.cS ")") .nil)))))
  .skip)))⟩
class H_text_of (M : Md) : Prop extends H_fraction_text M, H_is_int M where
  tb_text_of : tbl M.tb "text_of" = some i_text_of
def i_recipe_text : Fn := ⟨1, 1,
  (.seq (.exp (.call "check_recipe" (.cons (.loc 0) .nil)))
  (.seq (.ret (.call "text_of" (.cons (.loc 0) .nil)))
  .skip))⟩
class H_recipe_text (M : Md) : Prop extends H_check_recipe M, H_text_of M where
  tb_recipe_text : tbl M.tb "recipe_text" = some i_recipe_text
end Lib

set_option Elab.async false
set_option linter.all false
set_option maxRecDepth 100000
set_option maxHeartbeats 1000000
namespace Lib
open PySem L2 Pi
section
variable {M : Md}
/-! fractions -/
def sm (i : Int) : Prop := i.natAbs < 2 ^ 8000
theorem log2_le {n k : Nat} (h : n < 2 ^ k) : n.log2 ≤ k := by
  by_cases h0 : n = 0
  · rw [h0]; simp
  · exact Nat.le_of_lt ((Nat.log2_lt h0).mpr h)
theorem mulOk_sm {i j : Int} (a : sm i) (b : sm j) : mulOk i j = true := by
  have h1 := log2_le a
  have h2 := log2_le b
  unfold mulOk
  exact decide_eq_true (by omega)
theorem divOk_sm {j : Int} (h : 0 < j) (b : sm j) : divOk j = true := by
  have h2 := log2_le b
  unfold divOk
  rw [decide_eq_true h, decide_eq_true (show j.natAbs.log2 < 9000 by omega)]
  rfl
theorem mul_sm {i j : Int} (a : sm i) (b : sm j) : mulOp (.int i) (.int j) = some (.val (.int (i * j))) := if_pos (mulOk_sm a b)
theorem div_sm {i j : Int} (h : 0 < j) (b : sm j) : divOp (.int i) (.int j) = some (.val (.int (i / j))) := by
  have : divOp (.int i) (.int j) = gd (divOk j = true) (some (.val (.int (fdiv i j)))) := rfl
  rw [this, show fdiv i j = i / j from if_pos h]
  exact if_pos (divOk_sm h b)
theorem mod_pos {i j : Int} (h : 0 < j) : modOp (.int i) (.int j) = some (.val (.int (i % j))) := by
  have : modOp (.int i) (.int j) = gd (j ≠ 0) (some (.val (.int (fmod i j)))) := rfl
  rw [this, show fmod i j = i % j from if_pos h]
  exact if_pos (by omega)
theorem eq_int (i j : Int) : eqO (.int i) (.int j) = some (decide (i = j)) := by
  show gd (SeqAt.shaped (PyData.int i) = true ∧ SeqAt.shaped (PyData.int j) = true) (some (PyData.eqv (.int i) (.int j))) = _
  rw [show ∀ m : Option Bool, gd (SeqAt.shaped (PyData.int i) = true ∧ SeqAt.shaped (PyData.int j) = true) m = m from fun m => if_pos ⟨rfl, rfl⟩]
  congr 1
theorem add_int (i j : Int) : addOp (.int i) (.int j) = some (.val (.int (i + j))) := rfl
theorem sub_int (i j : Int) : subOp (.int i) (.int j) = some (.val (.int (i - j))) := rfl
/-- Euclid's loop -/
theorem euclid {C : Cfg} {sto : List (List D)} : ∀ (n : Nat) (a b : Int), b.natAbs ≤ n → 0 ≤ b → sm a → sm b →
    ∃ c : Int, c.natAbs = Int.gcd a b ∧ exS C (.whl (.cmp .NotEq (.loc 1) (.cI 0)) b_divisor_1) ⟨[.val (.int a), .val (.int b)], sto⟩ = okk .nx ⟨[.val (.int c), .val (.int 0)], sto⟩ := by
  have go : ∀ (n : Nat) (a b : Int), b.natAbs ≤ n → 0 ≤ b → sm a → sm b → ∃ c : Int, c.natAbs = Int.gcd a b ∧ ∃ m, iter (whl1 (evE C (.cmp .NotEq (.loc 1) (.cI 0))) (exS C b_divisor_1)) m ⟨[.val (.int a), .val (.int b)], sto⟩ = some (.ok .nx, ⟨[.val (.int c), .val (.int 0)], sto⟩) := by
    intro n
    induction n with
    | zero =>
      intro a b hn hb sa sb
      obtain rfl : b = 0 := by omega
      exact ⟨a, by simp, whl_end (by simp [evE, Sl.at, brw, Opd.get, eq_int])⟩
    | succ n ih =>
      intro a b hn hb sa sb
      by_cases h0 : b = 0
      · subst h0
        exact ⟨a, by simp, whl_end (by simp [evE, Sl.at, brw, Opd.get, eq_int])⟩
      · have hp : 0 < b := by omega
        have e : a - a / b * b = a % b := by rw [Int.emod_def, Int.mul_comm]
        have r1 := Int.emod_nonneg a h0
        have r2 := Int.emod_lt_of_pos a hp
        have sq : sm (a / b) := by
          have h1 : (a / b).natAbs ≤ a.natAbs := Int.natAbs_ediv_le_natAbs a b
          exact Nat.lt_of_le_of_lt h1 sa
        have sr : sm (a % b) := by
          have h1 : (a % b).natAbs ≤ b.natAbs := by omega
          exact Nat.lt_of_le_of_lt h1 sb
        obtain ⟨c, h1, h2⟩ := ih b (a % b) (by omega) r1 sb sr
        refine ⟨c, ?_, whl_turn (s1 := ⟨[.val (.int a), .val (.int b)], sto⟩) (s2 := ⟨[.val (.int b), .val (.int (a % b))], sto⟩) ?_ ?_ h2⟩
        · rw [h1, ← e, Int.gcd_sub_mul_right_right, Int.gcd_comm]
        · simp [evE, Sl.at, brw, Opd.get, eq_int, h0]
        · simp [b_divisor_1, exS, evRs, evE, Sl.at, div_sm hp sb, mul_sm sq sb, sub_int, setAll, setT, bindT, e]
  intro n a b hn hb sa sb
  obtain ⟨c, h1, h2⟩ := go n a b hn hb sa sb
  exact ⟨c, h1, whl_ex h2⟩
theorem sp_divisor [H_divisor M] {k : Nat} {a b : Int} {sto : List (List D)} (hb : 0 ≤ b) (sa : sm a) (sb : sm b) : (cfg M (k + 1)).fns "divisor" [.int a, .int b] sto = some (.ok (.val (.int (Int.gcd a b))), sto) := by
  rw [fns_at (H_divisor.tb_divisor), run1 rfl]
  obtain ⟨c, h1, h2⟩ := euclid (C := cfg M k) (sto := sto) _ a b (Nat.le_refl _) hb sa sb
  have : (if c < 0 then -c else c) = (Int.gcd a b : Int) := by rw [← h1]; split <;> omega
  simp [i_divisor]
  rw [seq_nx h2]
  simp [exS, evE, evL, Sl.at, absOp, outF, this]
/-- a fraction as the program has it -/
def fr (q : Rat) : D := .tup [.int q.num, .int q.den]
theorem sp_fraction [H_fraction M] {k : Nat} {n d : Int} {sto : List (List D)} (hd : 0 < d) (sn : sm n) (sd : sm d) : (cfg M (k + 2)).fns "fraction" [.int n, .int d] sto = some (.ok (.val (fr (mkRat n d.toNat))), sto) := by
  rw [fns_at (H_fraction.tb_fraction), run1 rfl]
  by_cases h1 : d = 1
  · subst h1
    have : fr (mkRat n (1 : Int).toNat) = .tup [.int n, .int 1] := by
      unfold fr
      rw [show ((1 : Int).toNat) = 1 from rfl, Rat.mkRat_one]
      rfl
    rw [this]
    simp [i_fraction, exS, evE, evL, Sl.at, brw, Opd.get, eq_int, outF, szL]
  · have hz : d.toNat ≠ 0 := by omega
    have e : mkRat n d.toNat = Rat.normalize n d.toNat hz := (Rat.normalize_eq_mkRat hz).symm
    have gd0 : Int.gcd n d = n.natAbs.gcd d.toNat := by
      rw [Int.gcd_eq_natAbs_gcd_natAbs]
      congr 1; omega
    have gp : 0 < Int.gcd n d := by
      rw [gd0]
      exact Nat.gcd_pos_of_pos_right _ (by omega)
    have sg : sm (Int.gcd n d : Int) := by
      have : Int.gcd n d ≤ d.natAbs := Nat.le_of_dvd (by omega) (Int.gcd_dvd_natAbs_right n d)
      unfold sm at *
      omega
    have gp' : (0 : Int) < (Int.gcd n d : Int) := by omega
    have en : fr (mkRat n d.toNat) = .tup [.int (n / (Int.gcd n d : Int)), .int (d / (Int.gcd n d : Int))] := by
      unfold fr
      rw [e, Rat.normalize_eq, gd0]
      have : ((d.toNat / n.natAbs.gcd d.toNat : Nat) : Int) = d / (n.natAbs.gcd d.toNat : Int) := by
        rw [Int.natCast_ediv, Int.toNat_of_nonneg (by omega)]
      simp [this]
    rw [en]
    have hn : ¬ d < 0 := by omega
    simp [i_fraction, exS, evE, evL, Sl.at, brw, Opd.get, eq_int, outF, szL, h1, sp_divisor (Int.le_of_lt hd) sn sd, setT, bindT, ltOp, hn, div_sm gp' sg]
/-! fractions: judged, added, summed -/
def sq (q : Rat) : Prop := q.num.natAbs < 2 ^ 3900 ∧ q.den < 2 ^ 3900
theorem two_pow_le {a b : Nat} (h : a ≤ b) : 2 ^ a ≤ 2 ^ b := Nat.pow_le_pow_right (by decide) h
theorem sm_of {i : Int} {n : Nat} (h : i.natAbs < 2 ^ n) (l : n ≤ 8000) : sm i := Nat.lt_of_lt_of_le h (two_pow_le l)
theorem sq_num {q : Rat} (h : sq q) : sm q.num := sm_of h.1 (by decide)
theorem sq_den {q : Rat} (h : sq q) : sm (q.den : Int) := sm_of (n := 3900) (by rw [Int.natAbs_natCast]; exact h.2) (by decide)
theorem mul_lt {a b n m : Nat} (ha : a < 2 ^ n) (hb : b < 2 ^ m) : a * b < 2 ^ (n + m) := by
  rw [Nat.pow_add]
  exact Nat.mul_lt_mul'' ha hb
theorem sp_is_int [H_is_int M] (k : Nat) (i : Int) (sto : List (List D)) : (cfg M (k + 1)).fns "is_int" [.int i] sto = some (.ok (.val (.bl true)), sto) := by
  rw [fns_at (H_is_int.tb_is_int), run1 rfl]
  simp [i_is_int, exS, evE, Sl.at, isTy, outF]
theorem sp_int_tup [H_is_int M] (k : Nat) (xs : List D) (sto : List (List D)) : (cfg M (k + 1)).fns "is_int" [.tup xs] sto = some (.ok (.val (.bl false)), sto) := by
  rw [fns_at (H_is_int.tb_is_int), run1 rfl]
  simp [i_is_int, exS, evE, Sl.at, isTy, outF]
theorem sp_is_within [H_is_within M] (k : Nat) (i a b : Int) (sto : List (List D)) : (cfg M (k + 2)).fns "is_within" [.int i, .int a, .int b] sto = some (.ok (.val (.bl (decide (a ≤ i ∧ i ≤ b)))), sto) := by
  rw [fns_at (H_is_within.tb_is_within), run1 rfl]
  simp [i_is_within, exS, evE, evL, Sl.at, isTy, outF, sp_is_int, leOp]
  by_cases h : a ≤ i <;> simp [h]
theorem sp_within_tup [H_is_within M] (k : Nat) (xs : List D) (a b : Int) (sto : List (List D)) : (cfg M (k + 2)).fns "is_within" [.tup xs, .int a, .int b] sto = some (.ok (.val (.bl false)), sto) := by
  rw [fns_at (H_is_within.tb_is_within), run1 rfl]
  simp [i_is_within, exS, evE, evL, Sl.at, isTy, outF, sp_int_tup, leOp]
theorem at0 {x : D} {r : List D} : atD (x :: r) 0 = some x := by simp [atD, ixOf]
theorem at1 {x y : D} {r : List D} : atD (x :: y :: r) 1 = some y := by
  simp [atD, ixOf]
  rw [if_pos (by omega)]; rfl
theorem at2 {x y z : D} {r : List D} : atD (x :: y :: z :: r) 2 = some z := by
  simp [atD, ixOf]
  rw [if_pos (by omega)]; rfl
theorem gcd_num (q : Rat) : Int.gcd q.num (q.den : Int) = 1 := by
  rw [Int.gcd_eq_natAbs_gcd_natAbs, Int.natAbs_natCast]
  exact q.reduced
theorem den_ge (q : Rat) : (1 : Int) ≤ q.den := by have := q.den_pos; omega
theorem sp_is_fraction [H_is_fraction M] {k : Nat} {q : Rat} {sto : List (List D)} (h : sq q) : (cfg M (k + 2)).fns "is_fraction" [fr q] sto = some (.ok (.val (.bl true)), sto) := by
  rw [fns_at (H_is_fraction.tb_is_fraction), run1 rfl]
  have d0 : (0 : Int) ≤ q.den := by have := den_ge q; omega
  simp [i_is_fraction, fr, exS, evE, evL, Sl.at, isTy, outF, truth, brw, Opd.get, lenOp, eq_int, idxOp, at0, at1, sp_is_int, geOp, den_ge q, sp_divisor d0 (sq_num h) (sq_den h), gcd_num]
theorem sp_is_less [H_is_less M] {k : Nat} {p q : Rat} {sto : List (List D)} (hp : sq p) (hq : sq q) : (cfg M (k + 1)).fns "is_less" [fr p, fr q] sto = some (.ok (.val (.bl (decide (p < q)))), sto) := by
  rw [fns_at (H_is_less.tb_is_less), run1 rfl]
  simp [i_is_less, fr, exS, evE, evL, Sl.at, outF, brw, Opd.get, idxOp, at0, at1, mul_sm (sq_num hp) (sq_den hq), mul_sm (sq_num hq) (sq_den hp), ltOp, Rat.lt_iff]
theorem add_num (p q : Rat) (h : p.den = q.den) : mkRat (p.num + q.num) p.den = p + q := by
  rw [Rat.add_def', ← h, ← Int.add_mul]
  exact (Rat.mkRat_mul_right p.den_nz).symm
theorem sp_add [H_add M] {k : Nat} {p q : Rat} {sto : List (List D)} (hp : sq p) (hq : sq q) : (cfg M (k + 3)).fns "add" [fr p, fr q] sto = some (.ok (.val (fr (p + q))), sto) := by
  rw [fns_at (H_add.tb_add), run1 rfl]
  have dp := den_ge p
  have dq := den_ge q
  by_cases h : p.den = q.den
  · have s1 : sm (p.num + q.num) := sm_of (n := 3901) (by
      have h1 := hp.1; have h2 := hq.1
      have : (p.num + q.num).natAbs ≤ p.num.natAbs + q.num.natAbs := Int.natAbs_add_le _ _
      have e : (2 : Nat) ^ 3901 = 2 ^ 3900 + 2 ^ 3900 := Nat.two_pow_succ _
      omega) (by decide)
    have sf := sp_fraction (M := M) (k := k) (sto := sto) (show (0 : Int) < p.den by omega) s1 (sq_den hp)
    rw [Int.toNat_natCast, add_num p q h] at sf
    simp [i_add, fr, exS, evE, evL, Sl.at, outF, brw, Opd.get, idxOp, at0, at1, eq_int, h, add_int] at sf ⊢
    rw [sf]
  · have h' : ¬ ((p.den : Int) = (q.den : Int)) := by omega
    have s1 : sm (p.num * q.den + q.num * p.den) := sm_of (n := 7801) (by
      have h1 := mul_lt hp.1 hq.2
      have h2 := mul_lt hq.1 hp.2
      have l1 : (p.num * q.den).natAbs = p.num.natAbs * q.den := by rw [Int.natAbs_mul, Int.natAbs_natCast]
      have l2 : (q.num * p.den).natAbs = q.num.natAbs * p.den := by rw [Int.natAbs_mul, Int.natAbs_natCast]
      have : (p.num * q.den + q.num * p.den).natAbs ≤ (p.num * q.den).natAbs + (q.num * p.den).natAbs := Int.natAbs_add_le _ _
      have e : (2 : Nat) ^ 7801 = 2 ^ 7800 + 2 ^ 7800 := Nat.two_pow_succ _
      omega) (by decide)
    have s2 : sm ((p.den : Int) * q.den) := sm_of (n := 7800) (by
      have h1 := mul_lt hp.2 hq.2
      rw [Int.natAbs_mul, Int.natAbs_natCast, Int.natAbs_natCast]
      exact h1) (by decide)
    have sf := sp_fraction (M := M) (k := k) (sto := sto) (show (0 : Int) < (p.den : Int) * q.den from Int.mul_pos (by omega) (by omega)) s1 s2
    have e : ((p.den : Int) * q.den).toNat = p.den * q.den := by rw [← Int.natCast_mul, Int.toNat_natCast]
    rw [e, ← Rat.add_def'] at sf
    simp [i_add, fr, exS, evE, evL, Sl.at, outF, brw, Opd.get, idxOp, at0, at1, eq_int, h', add_int, mul_sm (sq_num hp) (sq_den hq), mul_sm (sq_num hq) (sq_den hp), mul_sm (sq_den hp) (sq_den hq)] at sf ⊢
    rw [sf]
theorem sp_total [H_total M] {k : Nat} {qs : List Rat} {sto : List (List D)} (h : ∀ p s, p ++ s = qs → sq (p.foldl (· + ·) 0)) (hq : ∀ q ∈ qs, sq q) : (cfg M (k + 4)).fns "total" [.lst (qs.map fr)] sto = some (.ok (.val (fr (qs.foldl (· + ·) 0))), sto) := by
  rw [fns_at (H_total.tb_total), run1 rfl]
  have e0 : exS (cfg M (k + 3)) (.set (.nm 1) (.glb "ZERO")) ⟨[.val (.lst (qs.map fr)), .no, .no], sto⟩ = okk .nx ⟨[.val (.lst (qs.map fr)), .val (fr 0), .no], sto⟩ := by
    have : (cfg M (k + 3)).cst "ZERO" = some (fr 0) := by rw [cst_at]; exact C_ZERO.cs_ZERO
    simp [exS, evE, this, setT, bindT]
  obtain ⟨s', f1, f2⟩ := forGo_ind (t := .nm 2) (b := exS (cfg M (k + 3)) b_total_1) (fun items s => ∃ p r, p ++ r = qs ∧ items = r.map fr ∧ ∃ d, s = ⟨[.val (.lst (qs.map fr)), .val (fr (p.foldl (· + ·) 0)), d], sto⟩) (by
    rintro x r s ⟨p, r', e1, e2, d, rfl⟩
    cases r' with
    | nil => cases e2
    | cons q r' =>
      cases e2
      have sqp := h p _ e1
      have sqq := hq q (by rw [← e1]; simp)
      refine ⟨[.val (.lst (qs.map fr)), .val (fr (p.foldl (· + ·) 0)), .val (fr q)], ⟨[.val (.lst (qs.map fr)), .val (fr ((p ++ [q]).foldl (· + ·) 0)), .val (fr q)], sto⟩, by simp [bindT], .inl ?_, p ++ [q], r', by simp [e1], rfl, _, rfl⟩
      simp [b_total_1, exS, evE, evL, Sl.at, sp_add sqp sqq, setT, bindT]) (qs.map fr) ⟨[.val (.lst (qs.map fr)), .val (fr 0), .no], sto⟩ ⟨[], qs, rfl, rfl, _, rfl⟩
  obtain ⟨p, r, e1, e2, d, rfl⟩ := f2
  have : r = [] := by simpa using e2.symm
  subst this
  rw [List.append_nil] at e1
  subst e1
  simp [i_total]
  rw [seq_nx e0]
  have e3 : exS (cfg M (k + 3)) (.for (.nm 2) (.itr (.loc 0)) b_total_1) ⟨[.val (.lst (p.map fr)), .val (fr 0), .no], sto⟩ = okk .nx _ := (for_ex (by simp [evI, evE, Sl.at, items1])).trans f1
  rw [seq_nx e3]
  simp [exS, evE, Sl.at, outF]
end
end Lib

set_option Elab.async false
set_option linter.all false
set_option maxRecDepth 100000
set_option maxHeartbeats 1000000
namespace Lib
open PySem L2 Pi
section
variable {M : Md}
def partOk (q : Rat) : Prop := 0 ≤ q.num ∧ q.num ≤ q.den ∧ q.den ≤ 1000
instance {q : Rat} : Decidable (partOk q) := inferInstanceAs (Decidable (_ ∧ _))
theorem partOk_sq {q : Rat} (h : partOk q) : sq q := by
  obtain ⟨h1, h2, h3⟩ := h
  have e : (1000 : Nat) < 2 ^ 3900 := by
    have : 2 ^ 10 ≤ 2 ^ 3900 := two_pow_le (by decide)
    omega
  exact ⟨by omega, by omega⟩
/-! ### plain data, small numbers -/
mutual
def pd : D → Bool
  | .non => true | .bl _ => true | .str _ => true
  | .int i => decide (i.natAbs < 2 ^ 8000)
  | .tup xs => pds xs | .lst xs => pds xs
  | _ => false
def pds : List D → Bool
  | [] => true
  | x :: r => pd x && pds r
end
theorem pds_all : ∀ xs : List D, pds xs = xs.all pd
  | [] => rfl
  | x :: r => by
    show (pd x && pds r) = _
    rw [pds_all r]; rfl
theorem pds_mem {xs : List D} {x : D} (h : pds xs = true) (m : x ∈ xs) : pd x = true := by
  rw [pds_all] at h
  exact List.all_eq_true.mp h x m
theorem pd_int {i : Int} (h : pd (.int i) = true) : sm i := of_decide_eq_true (p := i.natAbs < 2 ^ 8000) h
def isI : D → Bool
  | .int _ => true | _ => false
theorem pd_ty {d : D} (h : pd d = true) (t : Ty) : ∃ b, isTy d t = some b := by
  cases d <;> first | (cases h; done) | (cases t <;> exact ⟨_, rfl⟩)
theorem sp_isint [H_is_int M] (k : Nat) {d : D} (h : pd d = true) (sto : List (List D)) : (cfg M (k + 1)).fns "is_int" [d] sto = some (.ok (.val (.bl (isI d))), sto) := by
  rw [fns_at H_is_int.tb_is_int, run1 rfl]
  cases d <;> first | (cases h; done) | simp [i_is_int, exS, evE, Sl.at, isTy, outF, isI]
theorem isI_int {d : D} (h : isI d = true) : ∃ i, d = .int i := by cases d <;> first | exact ⟨_, rfl⟩ | cases h
def inR (a b : Int) : D → Bool
  | .int i => decide (a ≤ i ∧ i ≤ b) | _ => false
theorem sp_iswithin [H_is_within M] (k : Nat) {d : D} (h : pd d = true) (a b : Int) (sto : List (List D)) : (cfg M (k + 2)).fns "is_within" [d, .int a, .int b] sto = some (.ok (.val (.bl (inR a b d))), sto) := by
  rw [fns_at H_is_within.tb_is_within, run1 rfl]
  have e := sp_isint (M := M) k h sto
  cases d <;> first | (cases h; done) | skip
  case int i =>
    simp [i_is_within, exS, evE, evL, Sl.at, outF, e, leOp, inR, isI]
    by_cases h : a ≤ i <;> simp [h]
  all_goals simp [i_is_within, exS, evE, evL, Sl.at, outF, e, inR, isI]
/-! ### fractions -/
def isF : D → Bool
  | .tup [.int n, .int d] => decide (1 ≤ d) && decide (Int.gcd n d = 1)
  | _ => false
theorem isF_fr (q : Rat) : isF (fr q) = true := by
  show (decide (1 ≤ (q.den : Int)) && decide (Int.gcd q.num q.den = 1)) = true
  rw [gcd_num, decide_eq_true (den_ge q)]; rfl
theorem fr_of {d : D} (h : isF d = true) : ∃ q : Rat, d = fr q := by
  unfold isF at h
  split at h
  · rename_i n d
    simp only [Bool.and_eq_true, decide_eq_true_eq] at h
    obtain ⟨h1, h2⟩ := h
    refine ⟨⟨n, d.toNat, by omega, ?_⟩, ?_⟩
    · rw [Int.gcd_eq_natAbs_gcd_natAbs] at h2
      rw [show d.toNat = d.natAbs by omega]
      exact h2
    · show D.tup [.int n, .int d] = .tup [.int n, .int ((d.toNat : Nat) : Int)]
      rw [Int.toNat_of_nonneg (by omega)]
  · cases h
theorem fr_pd {q : Rat} : pd (fr q) = true ↔ q.num.natAbs < 2 ^ 8000 ∧ q.den < 2 ^ 8000 := by
  show (decide (q.num.natAbs < 2 ^ 8000) && (decide (((q.den : Nat) : Int).natAbs < 2 ^ 8000) && true)) = true ↔ _
  simp only [Bool.and_eq_true, decide_eq_true_eq, Int.natAbs_natCast, and_true]
theorem sq_pd {q : Rat} (h : sq q) : pd (fr q) = true := fr_pd.mpr ⟨sq_num h, by have := sq_den h; unfold sm at this; rwa [Int.natAbs_natCast] at this⟩
theorem fr_inj {p q : Rat} (h : fr p = fr q) : p = q := by
  unfold fr at h
  injection h with h
  injection h with h1 h2
  injection h2 with h2 _
  injection h1 with h1
  injection h2 with h2
  exact Rat.ext h1 (by omega)
theorem eq_ints {n : Nat} {i : Int} : eqO (.int (n : Int)) (.int i) = some (decide ((n : Int) = i)) := eq_int _ _
theorem sp_isfrac [H_is_fraction M] (k : Nat) {d : D} (h : pd d = true) (sto : List (List D)) : (cfg M (k + 2)).fns "is_fraction" [d] sto = some (.ok (.val (.bl (isF d))), sto) := by
  rw [fns_at H_is_fraction.tb_is_fraction, run1 rfl]
  cases d <;> first | (cases h; done) | skip
  case tup xs =>
    match xs, h with
    | [], h => simp [i_is_fraction, exS, evE, evL, Sl.at, isTy, outF, truth, brw, Opd.get, lenOp, eq_int, isF]
    | [x], h => simp [i_is_fraction, exS, evE, evL, Sl.at, isTy, outF, truth, brw, Opd.get, lenOp, eq_int, isF]
    | x :: y :: z :: r, h =>
      have hl : ¬ (((x :: y :: z :: r).length : Nat) : Int) = 2 := by simp only [List.length_cons]; omega
      have e2 : isF (.tup (x :: y :: z :: r)) = false := by unfold isF; split <;> first | rfl | (rename_i e; cases e)
      generalize x :: y :: z :: r = xs at hl e2
      simp [i_is_fraction, exS, evE, evL, Sl.at, isTy, outF, truth, brw, Opd.get, lenOp, eq_int, e2, hl]
    | [x, y], h =>
      have h : (pd x && (pd y && true)) = true := h
      simp only [Bool.and_eq_true, and_true] at h
      have ex := sp_isint (M := M) k h.1 sto
      have ey := sp_isint (M := M) k h.2 sto
      by_cases hx : isI x = true
      · by_cases hy : isI y = true
        · obtain ⟨n, rfl⟩ := isI_int hx
          obtain ⟨d, rfl⟩ := isI_int hy
          by_cases h1 : 1 ≤ d
          · have dv := sp_divisor (M := M) (k := k) (sto := sto) (show 0 ≤ d by omega) (pd_int h.1) (pd_int h.2)
            simp [i_is_fraction, exS, evE, evL, Sl.at, isTy, outF, truth, brw, Opd.get, lenOp, eq_int, isF, ex, ey, isI, idxOp, at0, at1, geOp, h1, dv]
            omega
          · simp [i_is_fraction, exS, evE, evL, Sl.at, isTy, outF, truth, brw, Opd.get, lenOp, eq_int, isF, ex, ey, isI, idxOp, at0, at1, geOp, h1]
        · have e2 : isF (.tup [x, y]) = false := by unfold isF; split <;> first | rfl | (rename_i e; cases e; exact absurd rfl hy)
          simp [i_is_fraction, exS, evE, evL, Sl.at, isTy, outF, truth, brw, Opd.get, lenOp, eq_int, e2, ex, ey, hx, hy, idxOp, at0, at1]
      · have e2 : isF (.tup [x, y]) = false := by unfold isF; split <;> first | rfl | (rename_i e; cases e; exact absurd rfl hx)
        simp [i_is_fraction, exS, evE, evL, Sl.at, isTy, outF, truth, brw, Opd.get, lenOp, eq_int, e2, ex, hx, idxOp, at0, at1]
  all_goals simp [i_is_fraction, exS, evE, evL, Sl.at, isTy, outF, truth, isF]
theorem sq_small {q : Rat} (h : pd (fr q) = true) (h1 : q.num.natAbs < 2 ^ 3900) (h2 : q.den < 2 ^ 3900) : sq q := ⟨h1, h2⟩
/-! ### parts -/
def isSh : D → Bool
  | .tup [.int n, .int d] => isF (.tup [.int n, .int d]) && decide (0 ≤ n) && decide (n ≤ d)
  | _ => false
def isBd : D → Bool
  | .tup [.int n, .int d] => isSh (.tup [.int n, .int d]) && decide (d ≤ 1000)
  | _ => false
def rat : D → Rat
  | .tup [.int n, .int d] => mkRat n d.toNat
  | _ => 0
theorem rat_fr (q : Rat) : rat (fr q) = q := by
  show mkRat q.num ((q.den : Int).toNat) = q
  rw [Int.toNat_natCast, Rat.mkRat_self]
def isPt : D → Bool
  | .tup [a, b, _] => isBd a && isBd b && decide (rat a ≤ rat b)
  | _ => false
theorem isSh_fr (q : Rat) : isSh (fr q) = (decide (0 ≤ q.num) && decide (q.num ≤ q.den)) := by
  show (isF (fr q) && decide (0 ≤ q.num) && decide (q.num ≤ (q.den : Int))) = _
  rw [isF_fr]; rfl
theorem isBd_fr (q : Rat) : isBd (fr q) = decide (partOk q) := by
  show (isSh (fr q) && decide ((q.den : Int) ≤ 1000)) = _
  rw [isSh_fr]
  rw [Bool.eq_iff_iff]
  simp only [Bool.and_eq_true, decide_eq_true_eq]
  unfold partOk
  exact ⟨fun ⟨⟨a, b⟩, c⟩ => ⟨a, b, by omega⟩, fun ⟨a, b, c⟩ => ⟨⟨a, b⟩, by omega⟩⟩
theorem dec_lt (p q : Rat) : decide (p < q) = !decide (q ≤ p) := by rw [← decide_not, decide_eq_decide]; exact Rat.not_le.symm
theorem isSh_isF {d : D} (h : isSh d = true) : isF d = true := by
  unfold isSh at h
  split at h
  · simp only [Bool.and_eq_true] at h; exact h.1.1
  · cases h
theorem isBd_isSh {d : D} (h : isBd d = true) : isSh d = true := by
  unfold isBd at h
  split at h
  · simp only [Bool.and_eq_true] at h; exact h.1
  · cases h
theorem notF {d : D} (h : isF d = false) : isSh d = false ∧ isBd d = false := by
  constructor
  · cases e : isSh d with
    | false => rfl
    | true => rw [isSh_isF e] at h; cases h
  · cases e : isBd d with
    | false => rfl
    | true => rw [isSh_isF (isBd_isSh e)] at h; cases h
theorem sp_isshare [H_is_share M] (k : Nat) {d : D} (h : pd d = true) (sto : List (List D)) : (cfg M (k + 3)).fns "is_share" [d] sto = some (.ok (.val (.bl (isSh d))), sto) := by
  rw [fns_at H_is_share.tb_is_share, run1 rfl]
  have e := sp_isfrac (M := M) k h sto
  cases hf : isF d with
  | false =>
    rw [hf] at e
    simp [i_is_share, exS, evE, evL, Sl.at, outF, e, (notF hf).1]
  | true =>
    rw [hf] at e
    obtain ⟨q, rfl⟩ := fr_of hf
    rw [isSh_fr]
    simp [i_is_share, exS, evE, evL, Sl.at, outF, e]
    simp [fr, idxOp, at0, at1, brw, Opd.get, Sl.at, leOp]
    by_cases h1 : 0 ≤ q <;> simp [h1]
theorem sp_isbound [H_is_bound M] (k : Nat) {d : D} (h : pd d = true) (sto : List (List D)) : (cfg M (k + 4)).fns "is_bound" [d] sto = some (.ok (.val (.bl (isBd d))), sto) := by
  rw [fns_at H_is_bound.tb_is_bound, run1 rfl]
  have e := sp_isshare (M := M) k h sto
  have c : (cfg M (k + 3)).cst "MOST_UNDER" = some (.int 1000) := by rw [cst_at]; exact C_MOST_UNDER.cs_MOST_UNDER
  cases hs : isSh d with
  | false =>
    rw [hs] at e
    have : isBd d = false := by
      cases e : isBd d with
      | false => rfl
      | true => rw [isBd_isSh e] at hs; cases hs
    simp [i_is_bound, exS, evE, evL, Sl.at, outF, e, this]
  | true =>
    rw [hs] at e
    obtain ⟨q, rfl⟩ := fr_of (isSh_isF hs)
    have : isBd (fr q) = decide ((q.den : Int) ≤ 1000) := by
      show (isSh (fr q) && decide ((q.den : Int) ≤ 1000)) = _
      rw [hs]; rfl
    rw [this]
    simp [i_is_bound, exS, evE, evL, Sl.at, outF, e, c]
    simp [fr, idxOp, at0, at1, brw, Opd.get, Sl.at, leOp]
theorem isPt_of {d : D} (h : isPt d = true) : ∃ lo hi c, d = .tup [fr lo, fr hi, c] ∧ partOk lo ∧ partOk hi ∧ lo ≤ hi := by
  unfold isPt at h
  split at h
  · rename_i a b c
    simp only [Bool.and_eq_true, decide_eq_true_eq] at h
    obtain ⟨⟨h1, h2⟩, h3⟩ := h
    obtain ⟨lo, rfl⟩ := fr_of (isSh_isF (isBd_isSh h1))
    obtain ⟨hi, rfl⟩ := fr_of (isSh_isF (isBd_isSh h2))
    rw [isBd_fr] at h1 h2
    rw [rat_fr, rat_fr] at h3
    exact ⟨lo, hi, c, rfl, of_decide_eq_true h1, of_decide_eq_true h2, h3⟩
  · cases h
theorem isPt_fr (lo hi : Rat) (c : D) : isPt (.tup [fr lo, fr hi, c]) = (decide (partOk lo) && decide (partOk hi) && decide (lo ≤ hi)) := by
  show (isBd (fr lo) && isBd (fr hi) && decide (rat (fr lo) ≤ rat (fr hi))) = _
  rw [isBd_fr, isBd_fr, rat_fr, rat_fr]
theorem sp_ispart [H_is_part_alone M] (k : Nat) {d : D} (h : pd d = true) (sto : List (List D)) : (cfg M (k + 5)).fns "is_part_alone" [d] sto = some (.ok (.val (.bl (isPt d))), sto) := by
  rw [fns_at H_is_part_alone.tb_is_part_alone, run1 rfl]
  cases d <;> first | (cases h; done) | skip
  case tup xs =>
    by_cases h3 : xs.length = 3
    · match xs, h3, h with
      | [a, b, c], _, h =>
        have h : (pd a && (pd b && (pd c && true))) = true := h
        simp only [Bool.and_eq_true, and_true] at h
        have ea := sp_isbound (M := M) k h.1 sto
        have eb := sp_isbound (M := M) k h.2.1 sto
        cases ha : isBd a with
        | false =>
          rw [ha] at ea
          have : isPt (.tup [a, b, c]) = false := by show (isBd a && isBd b && _) = false; rw [ha]; rfl
          simp [i_is_part_alone, exS, evE, evL, Sl.at, outF, isTy, truth, lenOp, eq_int, brw, Opd.get, idxOp, at0, at1, ea, this]
        | true =>
          cases hb : isBd b with
          | false =>
            rw [ha] at ea; rw [hb] at eb
            have : isPt (.tup [a, b, c]) = false := by show (isBd a && isBd b && _) = false; rw [ha, hb]; rfl
            simp [i_is_part_alone, exS, evE, evL, Sl.at, outF, isTy, truth, lenOp, eq_int, brw, Opd.get, idxOp, at0, at1, ea, eb, this]
          | true =>
            rw [ha] at ea; rw [hb] at eb
            obtain ⟨lo, rfl⟩ := fr_of (isSh_isF (isBd_isSh ha))
            obtain ⟨hi, rfl⟩ := fr_of (isSh_isF (isBd_isSh hb))
            rw [isBd_fr] at ha hb
            have el := sp_is_less (M := M) (k := k + 3) (sto := sto) (partOk_sq (of_decide_eq_true hb)) (partOk_sq (of_decide_eq_true ha))
            rw [isPt_fr, ha, hb]
            simp [i_is_part_alone, exS, evE, evL, Sl.at, outF, isTy, truth, lenOp, eq_int, brw, Opd.get, idxOp, at0, at1, ea, eb, el, dec_lt]
    · have hl : ¬ ((xs.length : Nat) : Int) = 3 := by omega
      have : isPt (.tup xs) = false := by
        unfold isPt
        split
        · rename_i e; cases e; simp at h3
        · rfl
      simp [i_is_part_alone, exS, evE, evL, Sl.at, outF, isTy, truth, lenOp, eq_int, brw, Opd.get, this, hl]
  all_goals simp [i_is_part_alone, exS, evE, evL, Sl.at, outF, isTy, truth, isPt]
end
end Lib

set_option Elab.async false
set_option linter.all false
set_option maxRecDepth 100000
set_option maxHeartbeats 1000000
namespace Lib
open PySem L2 Pi
/-! ### the bins that are found -/
def fst3 : D → D
  | .tup (a :: _) => a | d => d
def snd3 : D → D
  | .tup (_ :: b :: _) => b | d => d
def trd3 : D → D
  | .tup (_ :: _ :: c :: _) => c | d => d
def fbs (f : D → Option (List Int)) : List D → List Int → Option (List Int)
  | [], F => some F
  | x :: r, F => if isPt x then match f (trd3 x) with
    | some B => if B.any (fun b => decide (b ∈ F)) then none else fbs f r (F ++ B)
    | none => none else none
abbrev rsum (qs : List Rat) : Rat := qs.foldl (· + ·) 0
def sumsOk (xs : List D) : Bool := decide (rsum (xs.map fun x => rat (fst3 x)) ≤ 1) && decide (1 ≤ rsum (xs.map fun x => rat (snd3 x)))
def fb : Nat → D → Option (List Int)
  | _, .int i => if 0 ≤ i ∧ i ≤ 7 then some [i] else none
  | n + 1, .tup xs => if 1 ≤ xs.length ∧ xs.length ≤ 8 then match fbs (fb n) xs [] with
    | some F => if sumsOk xs then some F else none
    | none => none else none
  | _, _ => none
def ofB : Option (List Int) → Rv
  | some l => .new (l.map .int)
  | none => .val .non
theorem fbs_len {f : D → Option (List Int)} {m : Nat} (hf : ∀ x B, f x = some B → B.length ≤ m) : ∀ (xs : List D) (F G : List Int), fbs f xs F = some G → G.length ≤ F.length + xs.length * m
  | [], F, G, h => by cases h; simp
  | x :: r, F, G, h => by
    unfold fbs at h
    split at h
    · split at h
      · rename_i B e
        split at h
        · cases h
        · have := fbs_len hf r _ _ h
          have := hf _ _ e
          rw [List.length_append] at *
          rw [List.length_cons, Nat.succ_mul]
          omega
      · cases h
    · cases h
theorem fb_int (n : Nat) (i : Int) : fb n (.int i) = if 0 ≤ i ∧ i ≤ 7 then some [i] else none := by cases n <;> rfl
theorem fb_len : ∀ (n : Nat) (d : D) (l : List Int), fb n d = some l → l.length ≤ 8 ^ n
  | 0, d, l, h => by
    cases d <;> first | (cases h; done) | skip
    rw [fb_int] at h
    split at h
    · cases h; simp
    · cases h
  | n + 1, d, l, h => by
    cases d <;> first | (cases h; done) | skip
    · rw [fb_int] at h
      split at h
      · cases h
        have := Nat.pow_pos (n := n + 1) (show 0 < 8 by decide)
        simp only [List.length_singleton]
        omega
      · cases h
    · rename_i xs
      unfold fb at h
      split at h
      · rename_i hl
        split at h
        · rename_i F e
          split at h
          · cases h
            have := fbs_len (fun x B h => fb_len n x B h) xs [] l e
            have := Nat.mul_le_mul_right (8 ^ n) hl.2
            simp only [List.length_nil] at *
            rw [Nat.pow_succ]
            omega
          · cases h
        · cases h
      · cases h
theorem allBls_bl : ∀ l : List Bool, allBls (l.map .bl) = some l
  | [] => rfl
  | b :: l => by
    show (allBls (l.map .bl)).map _ = _
    rw [allBls_bl l]; rfl
theorem flat_ints : ∀ l : List Int, (l.map D.int).all flat = true
  | [] => rfl
  | i :: l => by rw [List.map_cons, List.all_cons, flat_ints l]; rfl
theorem any_ints (i : Int) : ∀ l : List Int, ((l.map D.int).any fun y => eqF y (.int i)) = decide (i ∈ l)
  | [] => rfl
  | j :: l => by
    rw [List.map_cons, List.any_cons, any_ints i l]
    show (j == i || _) = _
    by_cases h : j = i
    · subst h; simp
    · simp [h, Ne.symm h]
theorem in_ints (i : Int) (l : List Int) : inOp (.int i) (.lst (l.map .int)) = some (decide (i ∈ l)) := by
  show gd (flat (.int i) = true ∧ (l.map D.int).all flat = true) _ = _
  rw [show ∀ m : Option Bool, gd (flat (.int i) = true ∧ (l.map D.int).all flat = true) m = m from fun m => if_pos ⟨rfl, flat_ints l⟩, any_ints]
def isIn (F : List Int) : D → D
  | .int b => .bl (decide (b ∈ F)) | d => d
theorem map_isIn (F B : List Int) : (B.map D.int).map (isIn F) = (B.map fun b => decide (b ∈ F)).map D.bl := by
  rw [List.map_map, List.map_map]; rfl
section
variable {M : Md}
abbrev fbE (thing : D) (d : Int) (F : List Int) (e3 e4 : Sl) : List Sl := [.val thing, .val (.int d), .own (F.map .int), e3, e4, .no]
/-- one turn -/
theorem found_turn [H_found_bins M] {k : Nat} {thing x : D} {d : Int} {F : List Int} {e4 : Sl} {sto : List (List D)} {f : D → Option (List Int)} (hx : pd x = true) (hc : ∀ c, trd3 x = c → (cfg M (k + 5)).fns "found_bins" [c, .int (d - 1)] sto = some (.ok (ofB (f c)), sto))
    (hl : ∀ B, f (trd3 x) = some B → F.length + B.length ≤ 4000000) :
    ∃ e4', (∀ ys, e4' ≠ .own ys) ∧ exS (cfg M (k + 5)) b_found_bins_1 ⟨fbE thing d F (.val x) e4, sto⟩ = match (if isPt x then match f (trd3 x) with
      | some B => if B.any (fun b => decide (b ∈ F)) then none else some B
      | none => none else none) with
    | some B => okk .nx ⟨fbE thing d (F ++ B) (.val x) e4', sto⟩
    | none => okk (.ret (.val .non)) ⟨fbE thing d F (.val x) e4', sto⟩ := by
  have ep := sp_ispart (M := M) k hx sto
  cases hp : isPt x with
  | false =>
    rw [hp] at ep
    exact ⟨.val .non, (by intro _ z; cases z), by simp [b_found_bins_1, fbE, exS, evE, evL, Sl.at, ep, truth, setT, bindT]⟩
  | true =>
    rw [hp] at ep
    obtain ⟨lo, hi, c, rfl, h1, h2, h3⟩ := isPt_of hp
    have ec := hc c rfl
    have e3 : trd3 (.tup [fr lo, fr hi, c]) = c := rfl
    rw [e3] at hl ⊢
    cases hb : f c with
    | none =>
      rw [hb] at ec
      exact ⟨.val .non, (by intro _ z; cases z), by simp [b_found_bins_1, fbE, exS, evE, evL, Sl.at, ep, truth, setT, bindT, brw, Opd.get, idxOp, at2, subOp, ec, ofB]⟩
    | some B =>
      rw [hb] at ec
      have hl := hl B hb
      have comp : evE (cfg M (k + 5)) (.comp [5] c_found_bins_1 (.nm 5) (.itr (.loc 4)) (.cB true)) ⟨fbE thing d F (.val (.tup [fr lo, fr hi, c])) (.val (.lst (B.map .int))), sto⟩ =
          okk (.new ((B.map D.int).map (isIn F))) ⟨fbE thing d F (.val (.tup [fr lo, fr hi, c])) (.val (.lst (B.map .int))), sto⟩ := by
        refine comp_pure (isIn F) (items := B.map .int) (by simp [evI, evE, Sl.at, items1]) rfl (by rw [List.length_map]; exact Nat.le_trans (show B.length ≤ 4000000 by omega) (by decide)) ?_
        intro y hy
        obtain ⟨b, hb, rfl⟩ := List.mem_map.mp hy
        refine ⟨[.val thing, .val (.int d), .own (F.map .int), .val (.tup [fr lo, fr hi, c]), .val (.lst (B.map .int)), .val (.int b)], .val (.bl (decide (b ∈ F))), rfl, rfl, ?_, rfl⟩
        simp [c_found_bins_1, evE, Sl.at, brw, Opd.get, in_ints]
      have any0 : anyOp [.lst ((B.map D.int).map (isIn F))] = some (.val (.bl (B.any fun b => decide (b ∈ F)))) := by
        show (allBls _).map _ = _
        rw [map_isIn, allBls_bl, Option.map_some, List.any_map]; rfl
      rw [List.map_map] at any0
      have cat : addOp (.lst (F.map .int)) (.lst (B.map .int)) = some (.new ((F ++ B).map .int)) := by
        show gd (_ ≤ szL) _ = _
        rw [show ∀ m : Option Rv, gd ((F.map D.int).length + (B.map D.int).length ≤ szL) m = m from fun m => if_pos (by
          rw [List.length_map, List.length_map]
          exact Nat.le_trans hl (by decide)), List.map_append]
      refine ⟨.val (.lst (B.map .int)), (by intro _ z; cases z), ?_⟩
      show exS (cfg M (k + 5)) b_found_bins_1 ⟨fbE thing d F (.val (.tup [fr lo, fr hi, c])) e4, sto⟩ = match (if (B.any fun b => decide (b ∈ F)) = true then (none : Option (List Int)) else some B) with
        | some B' => okk .nx ⟨fbE thing d (F ++ B') (.val (.tup [fr lo, fr hi, c])) (.val (.lst (B.map .int))), sto⟩
        | none => okk (.ret (.val .non)) ⟨fbE thing d F (.val (.tup [fr lo, fr hi, c])) (.val (.lst (B.map .int))), sto⟩
      cases ha : (B.any fun b => decide (b ∈ F)) with
      | true =>
        rw [ha] at any0
        show _ = okk (Fl.ret (.val .non)) ⟨fbE thing d F (.val (.tup [fr lo, fr hi, c])) (.val (.lst (B.map .int))), sto⟩
        simp [b_found_bins_1, fbE, exS, evE, evL, Sl.at, ep, truth, setT, bindT, brw, Opd.get, idxOp, at2, subOp, ec, ofB] at comp ⊢
        simp [comp, any0, truth]
      | false =>
        rw [ha] at any0
        show _ = okk Fl.nx ⟨fbE thing d (F ++ B) (.val (.tup [fr lo, fr hi, c])) (.val (.lst (B.map .int))), sto⟩
        simp [b_found_bins_1, fbE, exS, evE, evL, Sl.at, ep, truth, setT, bindT, brw, Opd.get, idxOp, at2, subOp, ec, ofB] at comp ⊢
        simp [comp, any0, truth, cat, bindT]
theorem fbs_cons (f : D → Option (List Int)) (x : D) (r : List D) (F : List Int) : fbs f (x :: r) F = (match (if isPt x then match f (trd3 x) with
      | some B => if B.any (fun b => decide (b ∈ F)) then none else some B
      | none => none else none) with
    | some B => fbs f r (F ++ B)
    | none => none) := by
  conv => lhs; unfold fbs
  by_cases hp : isPt x = true
  · rw [if_pos hp, if_pos hp]
    cases f (trd3 x) with
    | none => rfl
    | some B =>
      by_cases h : (B.any fun b => decide (b ∈ F)) = true
      · simp only [h, if_true]
      · simp only [h, Bool.false_eq_true, if_false]
  · rw [if_neg hp, if_neg hp]
/-- all turns -/
theorem found_all [H_found_bins M] {k m : Nat} {thing : D} {d : Int} {sto : List (List D)} {f : D → Option (List Int)} (hm : ∀ x B, f x = some B → B.length ≤ m) :
    ∀ (xs : List D) (F : List Int) (e3 e4 : Sl), (∀ ys, e3 ≠ .own ys) → (∀ x ∈ xs, pd x = true) → (∀ c, pd c = true → (cfg M (k + 5)).fns "found_bins" [c, .int (d - 1)] sto = some (.ok (ofB (f c)), sto)) → F.length + xs.length * m ≤ 4000000 →
    ∃ e3' e4', (∀ ys, e3' ≠ .own ys) ∧ ∃ F', forGo (.nm 3) (exS (cfg M (k + 5)) b_found_bins_1) xs ⟨fbE thing d F e3 e4, sto⟩ = match fbs f xs F with
      | some G => okk .nx ⟨fbE thing d G e3' e4', sto⟩
      | none => okk (.ret (.val .non)) ⟨fbE thing d F' e3' e4', sto⟩
  | [], F, e3, e4, h3, _, _, _ => ⟨e3, e4, h3, F, rfl⟩
  | x :: r, F, e3, e4, h3, hp, hc, hl => by
    have hx := hp x List.mem_cons_self
    have hl2 : ∀ B, f (trd3 x) = some B → F.length + B.length + r.length * m ≤ 4000000 := fun B e => by
      have := hm _ _ e
      rw [List.length_cons, Nat.succ_mul] at hl
      omega
    have px : isPt x = true → pd (trd3 x) = true := fun h => by
      obtain ⟨lo, hi, c, rfl, _⟩ := isPt_of h
      have hx : (pd (fr lo) && (pd (fr hi) && (pd c && true))) = true := hx
      simp only [Bool.and_eq_true, and_true] at hx
      exact hx.2.2
    by_cases hpt : isPt x = true
    · obtain ⟨e4', h4, ev⟩ := found_turn (M := M) (k := k) (thing := thing) (d := d) (F := F) (e4 := e4) (sto := sto) (f := f) hx (fun c e => by rw [← e]; exact hc _ (px hpt)) (fun B e => by have := hl2 B e; omega)
      rw [forGo_cons, show bindT (.nm 3) x (fbE thing d F e3 e4) = some (fbE thing d F (.val x) e4) from rfl]
      simp only [ev, fbs_cons]
      cases hr : (if isPt x then match f (trd3 x) with
        | some B => if B.any (fun b => decide (b ∈ F)) then none else some B
        | none => none else none) with
      | none => exact ⟨.val x, e4', (by intro _ z; cases z), F, rfl⟩
      | some B =>
        have hB : f (trd3 x) = some B := by
          rw [if_pos hpt] at hr
          cases hf : f (trd3 x) with
          | none => rw [hf] at hr; cases hr
          | some B' =>
            rw [hf] at hr
            simp only at hr
            split at hr
            · cases hr
            · cases hr; rfl
        have := hl2 B hB
        obtain ⟨a, b, h5, F', ih⟩ := found_all hm r (F ++ B) (.val x) e4' (by intro _ z; cases z) (fun y hy => hp y (List.mem_cons_of_mem _ hy)) hc (by rw [List.length_append]; omega)
        exact ⟨a, b, h5, F', ih⟩
    · obtain ⟨e4', h4, ev⟩ : ∃ e4', (∀ ys, e4' ≠ Sl.own ys) ∧ exS (cfg M (k + 5)) b_found_bins_1 ⟨fbE thing d F (.val x) e4, sto⟩ = okk (.ret (.val .non)) ⟨fbE thing d F (.val x) e4', sto⟩ := by
        have ep := sp_ispart (M := M) k hx sto
        rw [show isPt x = false by simpa using hpt] at ep
        exact ⟨.val .non, (by intro _ z; cases z), by simp [b_found_bins_1, fbE, exS, evE, evL, Sl.at, ep, truth, setT, bindT]⟩
      rw [forGo_cons, show bindT (.nm 3) x (fbE thing d F e3 e4) = some (fbE thing d F (.val x) e4) from rfl]
      simp only [ev, fbs_cons, if_neg hpt]
      exact ⟨.val x, e4', (by intro _ z; cases z), F, rfl⟩
end
end Lib

set_option Elab.async false
set_option linter.all false
set_option maxRecDepth 100000
set_option maxHeartbeats 1000000
namespace Lib
open PySem L2 Pi
section
variable {M : Md}
/-! ### sums of many small ones -/
/-- all prefix sums are small -/
def sums (qs : List Rat) : Prop := ∀ p s, p ++ s = qs → sq (rsum p)
theorem partOk_le {q : Rat} (h : partOk q) : 0 ≤ q ∧ q ≤ 1 := by
  obtain ⟨h1, h2, h3⟩ := h
  refine ⟨Rat.num_nonneg.mp h1, ?_⟩
  rw [Rat.le_iff]
  simpa using h2
/-- how large a number is -/
def bd (n : Nat) (q : Rat) : Prop := q.num.natAbs < 2 ^ n ∧ q.den < 2 ^ n
theorem bd_sq {n : Nat} {q : Rat} (h : bd n q) (l : n ≤ 3900) : sq q := ⟨Nat.lt_of_lt_of_le h.1 (two_pow_le l), Nat.lt_of_lt_of_le h.2 (two_pow_le l)⟩
theorem bd_le {n m : Nat} {q : Rat} (h : bd n q) (l : n ≤ m) : bd m q := ⟨Nat.lt_of_lt_of_le h.1 (two_pow_le l), Nat.lt_of_lt_of_le h.2 (two_pow_le l)⟩
theorem num_den_mk (a : Int) {d : Nat} (h : d ≠ 0) : (mkRat a d).num.natAbs ≤ a.natAbs ∧ (mkRat a d).den ≤ d := by
  constructor
  · rw [Rat.num_mkRat, if_neg h]
    exact Int.natAbs_ediv_le_natAbs _ _
  · rw [Rat.den_mkRat, if_neg h]
    exact Nat.div_le_self _ _
theorem bd_add {a b : Nat} {p q : Rat} (hp : bd a p) (hq : bd b q) : bd (a + b + 1) (p + q) := by
  rw [Rat.add_def']
  have hd : p.den * q.den ≠ 0 := Nat.mul_ne_zero p.den_nz q.den_nz
  obtain ⟨h1, h2⟩ := num_den_mk (p.num * q.den + q.num * p.den) hd
  have l1 := mul_lt hp.1 hq.2
  have l2 := mul_lt hq.1 hp.2
  have e1 : (p.num * q.den).natAbs = p.num.natAbs * q.den := by rw [Int.natAbs_mul, Int.natAbs_natCast]
  have e2 : (q.num * p.den).natAbs = q.num.natAbs * p.den := by rw [Int.natAbs_mul, Int.natAbs_natCast]
  have e3 : (p.num * q.den + q.num * p.den).natAbs ≤ (p.num * q.den).natAbs + (q.num * p.den).natAbs := Int.natAbs_add_le _ _
  have e : (2 : Nat) ^ (a + b + 1) = 2 ^ (a + b) + 2 ^ (a + b) := Nat.two_pow_succ _
  rw [Nat.add_comm b a] at l2
  have l3 := mul_lt hp.2 hq.2
  exact ⟨by omega, by omega⟩
theorem bd_mul {a b : Nat} {p q : Rat} (hp : bd a p) (hq : bd b q) : bd (a + b) (p * q) := by
  rw [Rat.mul_def']
  have hd : p.den * q.den ≠ 0 := Nat.mul_ne_zero p.den_nz q.den_nz
  obtain ⟨h1, h2⟩ := num_den_mk (p.num * q.num) hd
  have l1 := mul_lt hp.1 hq.1
  have l3 := mul_lt hp.2 hq.2
  rw [Int.natAbs_mul] at h1
  exact ⟨by omega, by omega⟩
theorem bd_neg {a : Nat} {p : Rat} (hp : bd a p) : bd a (-p) := by
  refine ⟨?_, hp.2⟩
  show (-p.num).natAbs < _
  rw [Int.natAbs_neg]
  exact hp.1
theorem bd_zero (n : Nat) : bd (n + 1) 0 := ⟨by show (0 : Int).natAbs < _; exact Nat.two_pow_pos _, by
  have := Nat.two_pow_pos n
  have : (2 : Nat) ^ (n + 1) = 2 ^ n + 2 ^ n := Nat.two_pow_succ _
  show 1 < _; omega⟩
theorem bd_part {q : Rat} (h : partOk q) : bd 10 q := by
  obtain ⟨h1, h2, h3⟩ := h
  have : (2 : Nat) ^ 10 = 1024 := rfl
  exact ⟨by omega, by omega⟩
theorem bd_rsum {m : Nat} : ∀ (qs : List Rat), (∀ q ∈ qs, bd m q) → ∀ (a : Nat) (x : Rat), bd a x → bd (a + qs.length * (m + 1)) (qs.foldl (· + ·) x)
  | [], _, a, x, hx => by simpa using hx
  | q :: qs, h, a, x, hx => by
    have := bd_rsum qs (fun y hy => h y (List.mem_cons_of_mem _ hy)) (a + m + 1) (x + q) (bd_add hx (h q List.mem_cons_self))
    refine bd_le this ?_
    rw [List.length_cons, Nat.succ_mul]
    omega
theorem sums_bd {m : Nat} {qs : List Rat} (h : ∀ q ∈ qs, bd m q) (l : 1 + qs.length * (m + 1) ≤ 3900) : sums qs := by
  intro p s e
  have := bd_rsum p (fun q hq => h q (by rw [← e]; exact List.mem_append_left _ hq)) 1 0 (bd_zero 0)
  refine bd_sq this ?_
  have : p.length * (m + 1) ≤ qs.length * (m + 1) := Nat.mul_le_mul_right _ (by rw [← e, List.length_append]; omega)
  omega
theorem fr_one : fr 1 = .tup [.int 1, .int 1] := rfl
/-! ### the bins that are found, whatever the thing is -/
theorem fbs_parts {f : D → Option (List Int)} : ∀ {xs : List D} {F G : List Int}, fbs f xs F = some G → ∀ x ∈ xs, isPt x = true
  | [], _, _, _, x, hx => by cases hx
  | y :: r, F, G, h, x, hx => by
    unfold fbs at h
    split at h
    · rename_i hy
      split at h
      · split at h
        · cases h
        · rcases List.mem_cons.mp hx with rfl | hx
          · exact hy
          · exact fbs_parts h x hx
      · cases h
    · cases h
theorem map_get {xs : List D} {g : D → Option D} {f : D → D} (h : ∀ x ∈ xs, g x = some (f x)) : True := trivial
theorem comp_idx {C : Cfg} {xs : List D} {env : List Sl} {sto : List (List D)} {i : Nat} {j : Int} {f : D → D} (hx : ∀ x ∈ xs, ∃ ys, x = .tup ys ∧ atD ys j = some (f x)) (h0 : Sl.at env 0 = .val (.tup xs)) (hi : i < env.length) (hn : Sl.at env i = .no ∨ ∃ d, Sl.at env i = .val d) (hl : xs.length ≤ 1000) :
    evE C (.comp [i] (.idx (.loc i) (.cI j)) (.nm i) (.itr (.loc 0)) (.cB true)) ⟨env, sto⟩ = okk (.new (xs.map f)) ⟨env, sto⟩ := by
  refine comp_pure f (items := xs) (by simp [evI, evE, h0, items1]) ?_ (Nat.le_trans hl (by decide)) fun x hx' => ?_
  · show ([i].all fun i => match Sl.at env i with | .own _ => false | _ => true) = true
    rcases hn with e | ⟨d, e⟩ <;> simp [e]
  · obtain ⟨ys, rfl, e⟩ := hx x hx'
    have lw : i < (wipeE env [i]).length := by rw [wipeE_length]; exact hi
    refine ⟨(wipeE env [i]).set i (.val (.tup ys)), .val (f (.tup ys)), by simp [bindT, lw], ?_, ?_, rfl⟩
    · apply List.ext_getElem?
      intro k
      show (((env.set i .no).set i _).set i .no)[k]? = _
      rw [List.set_set, List.set_set]; rfl
    · have e2 : Sl.at ((wipeE env [i]).set i (.val (.tup ys))) i = .val (.tup ys) := by
        unfold Sl.at
        rw [List.getD_eq_getElem?_getD, List.getElem?_set_self lw]; rfl
      simp [evE, e2, brw, Opd.get, idxOp, e]
theorem inR_fb {n : Nat} {i : Int} : fb n (.int i) = if inR 0 7 (.int i) then some [i] else none := by
  rw [fb_int]
  by_cases h : 0 ≤ i ∧ i ≤ 7 <;> simp [inR, h]
/-- the way in -/
theorem found_in [H_found_bins M] {L : Nat} {d : D} {n : Int} {e2 e3 e4 e5 : Sl} {sto : List (List D)} (hd : pd d = true) (B : S) : exS (cfg M (L + 5)) (.seq (.ite (.tru (.call "is_within" (.cons (.loc 0) (.cons (.cI 0) (.cons (.glb "MOST_BIN") .nil))))) (.seq (.ret (.lst (.cons (.loc 0) .nil))) .skip) .skip) B) ⟨[.val d, .val (.int n), e2, e3, e4, e5], sto⟩ =
    if inR 0 7 d then okk (.ret (.new [d])) ⟨[.val d, .val (.int n), e2, e3, e4, e5], sto⟩ else exS (cfg M (L + 5)) B ⟨[.val d, .val (.int n), e2, e3, e4, e5], sto⟩ := by
  have w := sp_iswithin (M := M) (L + 3) hd 0 7 sto
  have c1 : (cfg M (L + 5)).cst "MOST_BIN" = some (.int 7) := by rw [cst_at]; exact C_MOST_BIN.cs_MOST_BIN
  have t : evE (cfg M (L + 5)) (.tru (.call "is_within" (.cons (.loc 0) (.cons (.cI 0) (.cons (.glb "MOST_BIN") .nil))))) ⟨[.val d, .val (.int n), e2, e3, e4, e5], sto⟩ = okk (.val (.bl (inR 0 7 d))) ⟨[.val d, .val (.int n), e2, e3, e4, e5], sto⟩ :=
    ev_trub (ev_callp (el_three (ev_loc rfl) ev_cI (ev_glb c1)) w)
  cases h : inR 0 7 d with
  | true =>
    rw [h] at t
    rw [if_pos rfl]
    exact ex_ret ((ex_iteT t).trans (ex_ret (ex_rete (ev_lst (el_one (ev_loc rfl)) (by simp)) rfl)))
  | false =>
    rw [h] at t
    rw [if_neg (by simp)]
    exact seq_nx (ex_if0 t)
theorem bd_one : bd 1 1 := ⟨by decide, by decide⟩
theorem sp_found [H_found_bins M] : ∀ (n : Nat), n ≤ 6 → ∀ (d : D), pd d = true → ∀ (k : Nat) (sto : List (List D)), (cfg M (k + n + 6)).fns "found_bins" [d, .int n] sto = some (.ok (ofB (fb n d)), sto) := by
  intro n
  induction n with
  | zero =>
    intro _ d hd k sto
    rw [show k + 0 + 6 = (k + 5) + 1 by omega, show ((0 : Nat) : Int) = 0 from rfl]
    have inn := found_in (M := M) (L := k) (d := d) (n := 0) (e2 := .no) (e3 := .no) (e4 := .no) (e5 := .no) (sto := sto) hd
    by_cases hr : inR 0 7 d = true
    · cases d <;> first | (cases hr; done) | skip
      rename_i i
      rw [inR_fb, if_pos hr]
      exact fn_ret (k := k + 5) H_found_bins.tb_found_bins rfl ((inn _).trans (if_pos hr))
    · have e : fb 0 d = none := by
        cases d <;> first | rfl | skip
        rw [inR_fb, if_neg hr]
      rw [e]
      have t0 : evE (cfg M (k + 5)) (.cmp .Eq (.loc 1) (.cI 0)) ⟨[.val d, .val (.int 0), .no, .no, .no, .no], sto⟩ = okk (.val (.bl true)) ⟨[.val d, .val (.int 0), .no, .no, .no, .no], sto⟩ := ev_cmpc (ev_loc rfl) ev_cI rfl rfl (eq_int 0 0)
      exact fn_ret (k := k + 5) H_found_bins.tb_found_bins rfl (((inn _).trans (if_neg hr)).trans (ex_ret ((ex_iteT (ev_torT t0)).trans (ex_ret (ex_rete ev_cN rfl)))))
  | succ n ih =>
    intro hn d hd k sto
    have ih := ih (by omega)
    obtain ⟨L, eL⟩ : ∃ L, L = k + n + 1 := ⟨_, rfl⟩
    obtain ⟨dd, edd⟩ : ∃ dd : Int, dd = ((n + 1 : Nat) : Int) := ⟨_, rfl⟩
    rw [show k + (n + 1) + 6 = (L + 5) + 1 by omega, ← edd]
    have inn := found_in (M := M) (L := L) (d := d) (n := dd) (e2 := .no) (e3 := .no) (e4 := .no) (e5 := .no) (sto := sto) hd
    have c2 : (cfg M (L + 5)).cst "MOST_PARTS" = some (.int 8) := by rw [cst_at]; exact C_MOST_PARTS.cs_MOST_PARTS
    have c3 : (cfg M (L + 5)).cst "ONE" = some (fr 1) := by rw [cst_at]; exact C_ONE.cs_ONE
    have hd0 : ¬ dd = 0 := by omega
    by_cases hr : inR 0 7 d = true
    · cases d <;> first | (cases hr; done) | skip
      rename_i i
      rw [inR_fb, if_pos hr]
      exact fn_ret (k := L + 5) H_found_bins.tb_found_bins rfl ((inn _).trans (if_pos hr))
    have t0 : evE (cfg M (L + 5)) (.cmp .Eq (.loc 1) (.cI 0)) ⟨[.val d, .val (.int dd), .no, .no, .no, .no], sto⟩ = okk (.val (.bl false)) ⟨[.val d, .val (.int dd), .no, .no, .no, .no], sto⟩ := by
      have := eq_int dd 0
      rw [decide_eq_false hd0] at this
      exact ev_cmpc (ev_loc rfl) ev_cI rfl rfl this
    -- no tuple
    have nt : isTy d .tuple = some false → fb (n + 1) d = none → (cfg M (L + 5 + 1)).fns "found_bins" [d, .int dd] sto = some (.ok (ofB (fb (n + 1) d)), sto) := fun h1 h2 => by
      rw [h2]
      refine fn_ret (k := L + 5) H_found_bins.tb_found_bins rfl (((inn _).trans (if_neg hr)).trans (ex_ret ((ex_iteT (ev_torF t0 (ev_torT (ev_tnot (ev_trub (ev_isi (ev_loc rfl) h1)))))).trans (ex_ret (ex_rete ev_cN rfl)))))
    cases d with
    | tup xs =>
      have hps : ∀ x ∈ xs, pd x = true := fun x hx => pds_mem hd hx
      have t1 : evE (cfg M (L + 5)) (.tnot (.tru (.isi (.loc 0) .tuple))) ⟨[.val (.tup xs), .val (.int dd), .no, .no, .no, .no], sto⟩ = okk (.val (.bl false)) ⟨[.val (.tup xs), .val (.int dd), .no, .no, .no, .no], sto⟩ := ev_tnot (p := true) (ev_trub (ev_isi (ev_loc rfl) rfl))
      have t2 : evE (cfg M (L + 5)) (.cmp2 .LtE .LtE (.cI 1) (.len (.loc 0)) (.glb "MOST_PARTS")) ⟨[.val (.tup xs), .val (.int dd), .no, .no, .no, .no], sto⟩ = okk (.val (.bl (decide (1 ≤ xs.length ∧ xs.length ≤ 8)))) ⟨[.val (.tup xs), .val (.int dd), .no, .no, .no, .no], sto⟩ := by
        simp [evE, Sl.at, brw, Opd.get, lenOp, leOp, c2]
        by_cases h1 : 1 ≤ xs.length
        · simp [h1]
          have : (1 : Int) ≤ ((xs.length : Nat) : Int) := by omega
          simp [this]
          omega
        · have : ¬ (1 : Int) ≤ ((xs.length : Nat) : Int) := by omega
          simp [h1, this]
      by_cases hl : 1 ≤ xs.length ∧ xs.length ≤ 8
      · rw [decide_eq_true hl] at t2
        have st2 := ex_if0 (A := .seq (.ret .cN) .skip) (ev_torF t0 (ev_torF t1 (ev_tnot t2)))
        obtain ⟨a, b, h5, F', loop⟩ := found_all (M := M) (k := L) (m := 8 ^ n) (thing := .tup xs) (d := dd) (sto := sto) (f := fb n) (fun x B h => fb_len n x B h) xs [] .no .no (by intro _ z; cases z) hps (fun c hc => by
          have := ih c hc k sto
          rw [show dd - 1 = (n : Nat) by omega, show L + 5 = k + n + 6 by omega]
          exact this) (by
          have : 8 ^ n ≤ 8 ^ 6 := Nat.pow_le_pow_right (by decide) (by omega)
          have e6 : (8 : Nat) ^ 6 = 262144 := rfl
          have := Nat.mul_le_mul hl.2 this
          simp only [List.length_nil]
          omega)
        have st3 : exS (cfg M (L + 5)) (.set (.nm 2) (.lst .nil)) ⟨[.val (.tup xs), .val (.int dd), .no, .no, .no, .no], sto⟩ = okk .nx ⟨fbE (.tup xs) dd [] .no .no, sto⟩ := ex_setN (ev_lst el_nil (by simp)) (by simp)
        have st4 := (ex_for (C := cfg M (L + 5)) (t := .nm 3) (src := .itr (.loc 0)) (A := b_found_bins_1) (s := ⟨fbE (.tup xs) dd [] .no .no, sto⟩) (items := xs) (ei_itr (ev_loc rfl) rfl)).trans loop
        have efb : fb (n + 1) (.tup xs) = match fbs (fb n) xs [] with
          | some F => if sumsOk xs then some F else none
          | none => none := by
          show (if 1 ≤ xs.length ∧ xs.length ≤ 8 then (match fbs (fb n) xs [] with
            | some F => if sumsOk xs then some F else none
            | none => none) else none) = _
          rw [if_pos hl]
        rw [efb]
        cases hF : fbs (fb n) xs [] with
        | none =>
          rw [hF] at st4
          exact fn_ret (k := L + 5) H_found_bins.tb_found_bins rfl (((inn _).trans (if_neg hr)).trans (ex_seq st2 (ex_seq st3 (ex_ret st4))))
        | some G =>
          rw [hF] at st4
          have pts := fbs_parts hF
          have hno : Sl.at (fbE (.tup xs) dd G a b) 3 = .no ∨ ∃ d, Sl.at (fbE (.tup xs) dd G a b) 3 = .val d := by
            show a = .no ∨ ∃ d, a = .val d
            cases a with
            | no => exact .inl rfl
            | val d => exact .inr ⟨d, rfl⟩
            | own ys => exact absurd rfl (h5 ys)
          have g1 := comp_idx (C := cfg M (L + 5)) (xs := xs) (env := fbE (.tup xs) dd G a b) (sto := sto) (i := 3) (j := 0) (f := fst3) (fun x hx => by
            obtain ⟨lo, hi, c, rfl, _⟩ := isPt_of (pts x hx)
            exact ⟨_, rfl, by simp [at0, fst3]⟩) rfl (by simp) hno (by omega)
          have g2 := comp_idx (C := cfg M (L + 5)) (xs := xs) (env := fbE (.tup xs) dd G a b) (sto := sto) (i := 3) (j := 1) (f := snd3) (fun x hx => by
            obtain ⟨lo, hi, c, rfl, _⟩ := isPt_of (pts x hx)
            exact ⟨_, rfl, by simp [at1, snd3]⟩) rfl (by simp) hno (by omega)
          have r1 : xs.map fst3 = (xs.map fun x => rat (fst3 x)).map fr := by
            rw [List.map_map]
            refine List.map_congr_left fun x hx => ?_
            obtain ⟨lo, hi, c, rfl, _⟩ := isPt_of (pts x hx)
            show fr lo = fr (rat (fr lo))
            rw [rat_fr]
          have r2 : xs.map snd3 = (xs.map fun x => rat (snd3 x)).map fr := by
            rw [List.map_map]
            refine List.map_congr_left fun x hx => ?_
            obtain ⟨lo, hi, c, rfl, _⟩ := isPt_of (pts x hx)
            show fr hi = fr (rat (fr hi))
            rw [rat_fr]
          have b1 : ∀ q ∈ (xs.map fun x => rat (fst3 x)), bd 10 q := fun q hq => by
            obtain ⟨x, hx, rfl⟩ := List.mem_map.mp hq
            obtain ⟨lo, hi, c, rfl, p1, p2, _⟩ := isPt_of (pts x hx)
            show bd 10 (rat (fr lo))
            rw [rat_fr]; exact bd_part p1
          have b2 : ∀ q ∈ (xs.map fun x => rat (snd3 x)), bd 10 q := fun q hq => by
            obtain ⟨x, hx, rfl⟩ := List.mem_map.mp hq
            obtain ⟨lo, hi, c, rfl, p1, p2, _⟩ := isPt_of (pts x hx)
            show bd 10 (rat (fr hi))
            rw [rat_fr]; exact bd_part p2
          have s1 := sums_bd b1 (by rw [List.length_map]; omega)
          have s2 := sums_bd b2 (by rw [List.length_map]; omega)
          rw [r1] at g1
          rw [r2] at g2
          have t1 := sp_total (M := M) (k := L + 1) (sto := sto) s1 (fun q hq => bd_sq (b1 q hq) (by decide))
          have t2 := sp_total (M := M) (k := L + 1) (sto := sto) s2 (fun q hq => bd_sq (b2 q hq) (by decide))
          have q1 : sq (rsum (xs.map fun x => rat (fst3 x))) := s1 _ [] (by simp)
          have q2 : sq (rsum (xs.map fun x => rat (snd3 x))) := s2 _ [] (by simp)
          have l1 := sp_is_less (M := M) (k := L + 4) (sto := sto) (p := 1) (bd_sq bd_one (by decide)) q1
          have l2 := sp_is_less (M := M) (k := L + 4) (sto := sto) (q := 1) q2 (bd_sq bd_one (by decide))
          have u1 := ev_trub (ev_callp (C := cfg M (L + 5)) (f := "is_less") (el_two (ev_glb (s := ⟨fbE (.tup xs) dd G a b, sto⟩) c3) (ev_callp (f := "total") (el_one g1) t1)) l1)
          have u2 := ev_trub (ev_callp (C := cfg M (L + 5)) (f := "is_less") (el_two (ev_callp (f := "total") (el_one g2) t2) (ev_glb c3)) l2)
          have u := ev_tor u1 fun _ => u2
          have es : sumsOk xs = !(decide (1 < rsum (xs.map fun x => rat (fst3 x))) || decide (rsum (xs.map fun x => rat (snd3 x)) < 1)) := by
            unfold sumsOk
            rw [dec_lt, dec_lt, Bool.not_or, Bool.not_not, Bool.not_not]
          cases hs : sumsOk xs with
          | true =>
            rw [hs] at es
            rw [show (decide (1 < rsum (xs.map fun x => rat (fst3 x))) || decide (rsum (xs.map fun x => rat (snd3 x)) < 1)) = false by
              cases h : (decide (1 < rsum (xs.map fun x => rat (fst3 x))) || decide (rsum (xs.map fun x => rat (snd3 x)) < 1)) with
              | false => rfl
              | true => rw [h] at es; cases es] at u
            exact fn_ret (k := L + 5) H_found_bins.tb_found_bins rfl (((inn _).trans (if_neg hr)).trans (ex_seq st2 (ex_seq st3 (ex_seq st4 (ex_seq (ex_if0 u) (ex_ret (ex_reto rfl)))))))
          | false =>
            rw [hs] at es
            rw [show (decide (1 < rsum (xs.map fun x => rat (fst3 x))) || decide (rsum (xs.map fun x => rat (snd3 x)) < 1)) = true by
              cases h : (decide (1 < rsum (xs.map fun x => rat (fst3 x))) || decide (rsum (xs.map fun x => rat (snd3 x)) < 1)) with
              | true => rfl
              | false => rw [h] at es; cases es] at u
            exact fn_ret (k := L + 5) H_found_bins.tb_found_bins rfl (((inn _).trans (if_neg hr)).trans (ex_seq st2 (ex_seq st3 (ex_seq st4 (ex_ret ((ex_iteT u).trans (ex_ret (ex_rete ev_cN rfl))))))))
      · rw [decide_eq_false hl] at t2
        have efb : fb (n + 1) (.tup xs) = none := by
          show (if 1 ≤ xs.length ∧ xs.length ≤ 8 then _ else _) = _
          rw [if_neg hl]
        rw [efb]
        exact fn_ret (k := L + 5) H_found_bins.tb_found_bins rfl (((inn _).trans (if_neg hr)).trans (ex_ret ((ex_iteT (ev_torF t0 (ev_torF t1 (ev_tnot t2)))).trans (ex_ret (ex_rete ev_cN rfl)))))
    | int i => exact nt rfl (by rw [inR_fb, if_neg hr])
    | non => exact nt rfl rfl
    | bl _ => exact nt rfl rfl
    | str _ => exact nt rfl rfl
    | lst _ => exact nt rfl rfl
    | _ => cases hd
theorem sp_isrec [H_is_recipe M] {d : D} (hd : pd d = true) (k : Nat) (sto : List (List D)) : (cfg M (k + 13)).fns "is_recipe" [d] sto = some (.ok (.val (.bl (fb 6 d).isSome)), sto) := by
  have c : (cfg M (k + 12)).cst "MOST_DEPTH" = some (.int 6) := by rw [cst_at]; exact C_MOST_DEPTH.cs_MOST_DEPTH
  have e := sp_found (M := M) 6 (Nat.le_refl _) d hd k sto
  have e2 : (!isNon (ofB (fb 6 d)).d) = (fb 6 d).isSome := by cases fb 6 d <;> rfl
  have e3 := ev_notN (ev_callp (C := cfg M (k + 12)) (f := "found_bins") (el_two (ev_loc (i := 0) (s := ⟨[.val d], sto⟩) rfl) (ev_glb c)) e)
  rw [e2] at e3
  exact fn_ret (k := k + 12) H_is_recipe.tb_is_recipe rfl (ex_ret (ex_rete e3 rfl))
/-- what is no recipe is refused -/
theorem sp_check [H_check_recipe M] {d : D} (hd : pd d = true) (k : Nat) (sto : List (List D)) : (cfg M (k + 14)).fns "check_recipe" [d] sto = if (fb 6 d).isSome then some (.ok (.val .non), sto) else some (.error ⟨"BadRecipe", []⟩, sto) := by
  have e := sp_isrec (M := M) hd k sto
  have e3 := ev_tnot (ev_trub (ev_callp (C := cfg M (k + 13)) (f := "is_recipe") (el_one (ev_loc (i := 0) (s := ⟨[.val d], sto⟩) rfl)) e))
  cases h : (fb 6 d).isSome with
  | true =>
    rw [h] at e3
    rw [if_pos rfl]
    exact fn_nx (k := k + 13) H_check_recipe.tb_check_recipe rfl (ex_seq (ex_if0 e3) ex_skip)
  | false =>
    rw [h] at e3
    rw [if_neg (by simp)]
    exact fn_err (k := k + 13) H_check_recipe.tb_check_recipe rfl (ex_err ((ex_iteT e3).trans (ex_err ex_raise)))
end
end Lib

set_option Elab.async false
set_option linter.all false
set_option maxRecDepth 100000
set_option maxHeartbeats 1000000
namespace Lib
open PySem L2 Pi
section
variable {M : Md}
/-! recipes -/
inductive Rc where
  | bin (b : Int) | nil | cons (lo hi : Rat) (r rest : Rc)
/-- a recipe as the program has it; a row of parts -/
def Rc.ds : Rc → D × List D
  | .bin b => (.int b, [])
  | .nil => (.tup [], [])
  | .cons lo hi r rest => (.tup (.tup [fr lo, fr hi, r.ds.1] :: rest.ds.2), .tup [fr lo, fr hi, r.ds.1] :: rest.ds.2)
def Rc.d (r : Rc) : D := r.ds.1
def Rc.ps (r : Rc) : List D := r.ds.2
def Rc.bins : Rc → List Int
  | .bin b => [b] | .nil => [] | .cons _ _ r rest => r.bins ++ rest.bins
def Rc.dep : Rc → Nat
  | .bin _ => 0 | .nil => 0 | .cons _ _ r rest => max (r.dep + 1) rest.dep
def Rc.los : Rc → List Rat
  | .cons lo _ _ rest => lo :: rest.los | _ => []
def Rc.his : Rc → List Rat
  | .cons _ hi _ rest => hi :: rest.his | _ => []
def Rc.isMix : Rc → Prop
  | .cons _ _ _ _ => True | _ => False
def Rc.mixOk (r : Rc) : Prop := r.isMix ∧ r.los.length ≤ 8 ∧ sums r.los ∧ sums r.his ∧ r.los.foldl (· + ·) 0 ≤ 1 ∧ 1 ≤ r.his.foldl (· + ·) 0
/-- a right row of parts -/
def Rc.row : Rc → Prop
  | .bin _ => False
  | .nil => True
  | .cons lo hi r rest => partOk lo ∧ partOk hi ∧ lo ≤ hi ∧ ((∃ b, r = .bin b ∧ 0 ≤ b ∧ b ≤ 7) ∨ (r.row ∧ r.mixOk)) ∧ rest.row
/-- a right recipe, but that no bin comes twice -/
def Rc.ok (r : Rc) : Prop := (∃ b, r = .bin b ∧ 0 ≤ b ∧ b ≤ 7) ∨ (r.row ∧ r.mixOk)
theorem ds_mix {lo hi : Rat} {r rest : Rc} : (Rc.cons lo hi r rest).d = .tup (Rc.cons lo hi r rest).ps := rfl
theorem ps_cons {lo hi : Rat} {r rest : Rc} : (Rc.cons lo hi r rest).ps = .tup [fr lo, fr hi, r.d] :: rest.ps := rfl
theorem ps_len : ∀ r : Rc, r.ps.length = r.los.length
  | .bin _ => rfl | .nil => rfl | .cons lo hi r rest => by rw [ps_cons, List.length_cons, ps_len rest]; rfl
def Rc.good (r : Rc) : Prop := r.ok ∧ r.bins.Nodup ∧ r.bins.length ≤ 1000 ∧ r.dep ≤ 6
def Rc.each (Q : Rat → Rat → Rc → Prop) : Rc → Prop
  | .cons lo hi r rest => Q lo hi r ∧ rest.each Q | _ => True
def fstD : D → D
  | .tup (a :: _) => a | d => d
def sndD : D → D
  | .tup (_ :: b :: _) => b | d => d
def trdD : D → D
  | .tup (_ :: _ :: c :: _) => c | d => d
theorem map_fst : ∀ r : Rc, r.ps.map fstD = r.los.map fr
  | .bin _ => rfl | .nil => rfl | .cons lo hi r rest => by rw [ps_cons, List.map_cons, map_fst rest]; rfl
theorem map_snd : ∀ r : Rc, r.ps.map sndD = r.his.map fr
  | .bin _ => rfl | .nil => rfl | .cons lo hi r rest => by rw [ps_cons, List.map_cons, map_snd rest]; rfl
theorem ps_part : ∀ (r : Rc) (x : D), x ∈ r.ps → ∃ a b c, x = .tup [a, b, c]
  | .bin _, _, h => by cases h
  | .nil, _, h => by cases h
  | .cons lo hi r rest, x, h => by
    rcases List.mem_cons.mp h with rfl | h
    · exact ⟨_, _, _, rfl⟩
    · exact ps_part rest x h
theorem row_los : ∀ r : Rc, r.row → (∀ q ∈ r.los, sq q) ∧ ∀ q ∈ r.his, sq q
  | .bin _, h => h.elim
  | .nil, _ => ⟨fun _ h => (by cases h), fun _ h => (by cases h)⟩
  | .cons lo hi r rest, h => by
    obtain ⟨i1, i2⟩ := row_los rest h.2.2.2.2
    refine ⟨fun q hq => ?_, fun q hq => ?_⟩
    · rcases List.mem_cons.mp hq with rfl | hq
      · exact partOk_sq h.1
      · exact i1 q hq
    · rcases List.mem_cons.mp hq with rfl | hq
      · exact partOk_sq h.2.1
      · exact i2 q hq
theorem los_his : ∀ r : Rc, r.his.length = r.los.length
  | .bin _ => rfl | .nil => rfl | .cons _ _ _ rest => by
    show (_ :: rest.his).length = (_ :: rest.los).length
    rw [List.length_cons, List.length_cons, los_his rest]
/-! what the package's other doors tell of a recipe -/
/-- parts as the program has them, each with what belongs to its recipe -/
theorem each_all2 {β : Type} {Q : Rat → Rat → Rc → Prop} {R : D → β → Prop} {f : Rc → β} {outs : Rc → List β} (h0 : outs .nil = []) (hc : ∀ lo hi q rest, outs (.cons lo hi q rest) = f q :: outs rest) (hr : ∀ lo hi q, Q lo hi q → R (.tup [fr lo, fr hi, q.d]) (f q)) :
    ∀ r : Rc, (∀ b, r ≠ .bin b) → r.row → r.each Q → All2 R r.ps (outs r)
  | .bin b, h, _, _ => absurd rfl (h b)
  | .nil, _, _, _ => by rw [h0]; exact .nil
  | .cons lo hi q rest, _, hrow, h => by
    rw [hc]
    refine .cons (hr lo hi q h.1) (each_all2 h0 hc hr rest (fun b e => ?_) hrow.2.2.2.2 h.2)
    rw [e] at hrow
    exact hrow.2.2.2.2
def Rc.subs : Rc → List Rc
  | .cons _ _ r rest => r :: rest.subs | _ => []
theorem bins_flat : ∀ r : Rc, (∀ b, r ≠ .bin b) → r.row → (r.subs.map fun q => q.bins.map D.int).flatten = r.bins.map .int
  | .bin b, h, _ => absurd rfl (h b)
  | .nil, _, _ => rfl
  | .cons lo hi q rest, _, h => by
    have nb : ∀ b, rest ≠ .bin b := fun b e => by rw [e] at h; exact h.2.2.2.2
    show (q.bins.map D.int :: rest.subs.map fun q => q.bins.map D.int).flatten = (q.bins ++ rest.bins).map .int
    rw [List.flatten_cons, bins_flat rest nb h.2.2.2.2, List.map_append]
theorem mix_d {r : Rc} (h : r.isMix) : r.d = .tup r.ps := by cases r <;> first | rfl | cases h
theorem mix_nb {r : Rc} (h : r.isMix) : ∀ b, r ≠ .bin b := fun b e => by rw [e] at h; exact h
end
section
variable {M : Md} [H_recipe_bins M]
def RB1 (M : Md) (L : Nat) (q : Rc) : Prop := ∀ sto, (cfg M L).fns "recipe_bins" [q.d] sto = some (.ok (.new (q.bins.map .int)), sto)
theorem rb_mix {n : Nat} {r : Rc} (h1 : r.row) (h2 : r.isMix) (len : r.bins.length ≤ 1000) (ev : r.each fun _ _ q => RB1 M (n + 2) q) : RB1 M (n + 3) r := by
  intro sto
  rw [fns_at H_recipe_bins.tb_recipe_bins, run1 rfl, mix_d h2]
  have a : All2 (fun x ys => ∃ a b c, x = .tup [a, b, c] ∧ (cfg M (n + 2)).fns "recipe_bins" [c] sto = some (.ok (.new ys), sto)) r.ps (r.subs.map fun q => q.bins.map D.int) :=
    each_all2 (f := fun q => q.bins.map D.int) (outs := fun r => r.subs.map fun q => q.bins.map D.int) rfl (fun _ _ _ _ => rfl) (fun lo hi q h => ⟨_, _, _, rfl, h sto⟩) r (mix_nb h2) h1 ev
  have c := comp2_rel (C := cfg M (n + 2)) (vs := [1, 2]) (vs2 := [2]) (e := .loc 2) (t := .nm 1) (t2 := .nm 2) (src := .itr (.loc 0)) (src2 := .itr (.call "recipe_bins" (.cons (.idx (.loc 1) (.cI 2)) .nil))) (s := ⟨[.val (.tup r.ps), .no, .no], sto⟩) (s1 := ⟨[.val (.tup r.ps), .no, .no], sto⟩) a id (by simp) (by simp [evI, evE, Sl.at, items1]) rfl (by
    rw [bins_flat r (mix_nb h2) h1, List.length_map]
    exact Nat.le_trans len (by decide)) (by
    rintro x ys ⟨a, b, c, rfl, e⟩
    refine ⟨[.val (.tup r.ps), .val (.tup [a, b, c]), .no], ys, rfl, rfl, ?_, List.map_id _, fun y hy => ⟨[.val (.tup r.ps), .val (.tup [a, b, c]), .val y], .val y, rfl, rfl, by simp [evE, Sl.at], rfl⟩⟩
    simp [evI, evE, evL, Sl.at, brw, Opd.get, idxOp, at2, e, items1])
  rw [bins_flat r (mix_nb h2) h1] at c
  simp [i_recipe_bins, exS, evE, evL, Sl.at, sp_int_tup, truth, outF] at c ⊢
  simp [c]
theorem rb_both : ∀ r : Rc, (∀ L : Nat, r.ok → r.bins.length ≤ 1000 → r.dep + 3 ≤ L → RB1 M L r) ∧ ∀ L : Nat, r.row → r.bins.length ≤ 1000 → r.dep + 2 ≤ L → r.each fun _ _ q => RB1 M L q
  | .bin b => by
    refine ⟨fun L h _ hL sto => ?_, fun L h => h.elim⟩
    obtain ⟨n, rfl⟩ : ∃ n, L = n + 2 := ⟨L - 2, by omega⟩
    rw [fns_at H_recipe_bins.tb_recipe_bins, run1 rfl, show (Rc.bin b).d = .int b from rfl]
    simp [i_recipe_bins, exS, evE, evL, Sl.at, sp_is_int, truth, outF, szL, Rc.bins]
  | .nil => ⟨fun L h => by
      rcases h with ⟨_, e, _⟩ | ⟨_, h, _⟩
      · cases e
      · exact h.elim, fun L _ _ _ => trivial⟩
  | .cons lo hi q rest => by
    obtain ⟨q1, _⟩ := rb_both q
    obtain ⟨_, r2⟩ := rb_both rest
    have e : (Rc.cons lo hi q rest).bins = q.bins ++ rest.bins := rfl
    have ed : (Rc.cons lo hi q rest).dep = max (q.dep + 1) rest.dep := rfl
    have second : ∀ L : Nat, (Rc.cons lo hi q rest).row → (Rc.cons lo hi q rest).bins.length ≤ 1000 → (Rc.cons lo hi q rest).dep + 2 ≤ L → (Rc.cons lo hi q rest).each fun _ _ q => RB1 M L q := by
      intro L h len hL
      rw [e, List.length_append] at len
      rw [ed] at hL
      exact ⟨q1 L h.2.2.2.1 (by omega) (by omega), r2 L h.2.2.2.2 (by omega) (by omega)⟩
    refine ⟨fun L h len hL => ?_, second⟩
    obtain ⟨n, rfl⟩ : ∃ n, L = n + 3 := ⟨L - 3, by omega⟩
    rcases h with ⟨_, e, _⟩ | ⟨h1, h2⟩
    · cases e
    · exact rb_mix h1 trivial len (second (n + 2) h1 len (by omega))
end
end Lib

set_option Elab.async false
set_option linter.all false
set_option maxRecDepth 100000
set_option maxHeartbeats 1000000
namespace Lib
open PySem L2 Pi
section
variable {M : Md}
theorem allInts_int : ∀ l : List Int, allInts (l.map .int) = some l
  | [] => rfl
  | i :: l => by show (allInts (l.map .int)).map _ = _; rw [allInts_int l]; rfl
theorem maxI_dep : ∀ (r : Rc) (m : Int), (∀ b, r ≠ .bin b) → r.row → 0 ≤ m → 1 + maxI m (r.subs.map fun q => (q.dep : Int)) = max (1 + m) r.dep
  | .bin b, _, h, _, _ => absurd rfl (h b)
  | .nil, m, _, _, h => by
    show 1 + m = max (1 + m) (((0 : Nat) : Int))
    omega
  | .cons lo hi q rest, m, _, h, hm => by
    have nb : ∀ b, rest ≠ .bin b := fun b e => by rw [e] at h; exact h.2.2.2.2
    show 1 + maxI (if (q.dep : Int) > m then (q.dep : Int) else m) (rest.subs.map fun q => (q.dep : Int)) = max (1 + m) ((max (q.dep + 1) rest.dep : Nat) : Int)
    rw [maxI_dep rest _ nb h.2.2.2.2 (by split <;> omega)]
    split <;> omega
theorem los_bins : ∀ r : Rc, r.row → r.ps.length ≤ r.bins.length
  | .bin _, h => h.elim
  | .nil, _ => Nat.le_refl _
  | .cons lo hi q rest, h => by
    have i := los_bins rest h.2.2.2.2
    have : 1 ≤ q.bins.length := by
      rcases h.2.2.2.1 with ⟨b, rfl, _⟩ | ⟨h1, h2, _⟩
      · exact Nat.le_refl _
      · have := los_bins q h1
        cases q with
        | cons => rw [ps_cons, List.length_cons] at this; omega
        | _ => cases h2
    show (_ :: rest.ps).length ≤ (q.bins ++ rest.bins).length
    rw [List.length_cons, List.length_append]
    omega
end
section
variable {M : Md} [H__law_bins M]
/-! a recipe walked by the law's own words -/
def LB1 (M : Md) (L : Nat) (q : Rc) : Prop := ∀ sto, ∃ rv : Rv, (cfg M L).fns "_law_bins" [q.d] sto = some (.ok rv, sto) ∧ rv.d = .lst (q.bins.map .int)
theorem flatD_lst : ∀ l : List (List D), flatD (l.map .lst) = some l.flatten
  | [] => rfl
  | a :: l => by
    show (flatD (l.map .lst)).map _ = _
    rw [flatD_lst l]; rfl
theorem lb_mix {n : Nat} {r : Rc} (h1 : r.row) (h2 : r.isMix) (len : r.bins.length ≤ 1000) (ev : r.each fun _ _ q => LB1 M n q) : LB1 M (n + 1) r := by
  intro sto
  refine ⟨.val (.lst (r.bins.map .int)), ?_, rfl⟩
  rw [fns_at H__law_bins.tb__law_bins, run1 rfl, mix_d h2]
  have a : All2 (fun x y => ∃ a b c rv, x = .tup [a, b, c] ∧ (cfg M n).fns "_law_bins" [c] sto = some (.ok rv, sto) ∧ rv.d = y) r.ps ((r.subs.map fun q => q.bins.map D.int).map D.lst) :=
    each_all2 (f := fun q => D.lst (q.bins.map .int)) (outs := fun r => (r.subs.map fun q => q.bins.map D.int).map D.lst) rfl (fun _ _ _ _ => rfl) (fun lo hi q h => by
      obtain ⟨rv, e1, e2⟩ := h sto
      exact ⟨_, _, _, rv, rfl, e1, e2⟩) r (mix_nb h2) h1 ev
  have c := comp_rel (C := cfg M n) (vs := [1, 2, 3]) (e := c__law_bins_1) (t := .cons (.nm 1) (.cons (.nm 2) (.cons (.nm 3) .nil))) (src := .itr (.loc 0)) (s := ⟨[.val (.tup r.ps), .no, .no, .no], sto⟩) (s1 := ⟨[.val (.tup r.ps), .no, .no, .no], sto⟩) a (by simp [evI, evE, Sl.at, items1]) rfl (Nat.le_trans (Nat.le_trans (los_bins _ h1) len) (by decide)) (by
    rintro x y ⟨a, b, c, rv, rfl, e, e2⟩
    refine ⟨[.val (.tup r.ps), .val a, .val b, .val c], rv, rfl, rfl, ?_, e2⟩
    simp [c__law_bins_1, evE, evL, Sl.at, e])
  have sm0 : sumL [.lst ((r.subs.map fun q => q.bins.map D.int).map D.lst), .lst []] = some (.val (.lst (r.bins.map .int))) := by
    show (flatD _).bind _ = _
    rw [flatD_lst, Option.bind_some, bins_flat r (mix_nb h2) h1]
    exact if_pos (by rw [List.length_map]; exact Nat.le_trans (by simpa using len) (by decide))
  simp [i__law_bins, exS, evE, evL, Sl.at, isTy, truth, outF, szL] at c sm0 ⊢
  simp [c, sm0]
theorem lb_both : ∀ r : Rc, (∀ L : Nat, r.ok → r.bins.length ≤ 1000 → r.dep + 1 ≤ L → LB1 M L r) ∧ ∀ L : Nat, r.row → r.bins.length ≤ 1000 → r.dep ≤ L → r.each fun _ _ q => LB1 M L q
  | .bin b => by
    refine ⟨fun L h _ hL sto => ?_, fun L h => h.elim⟩
    obtain ⟨n, rfl⟩ : ∃ n, L = n + 1 := ⟨L - 1, by omega⟩
    refine ⟨.new [.int b], ?_, rfl⟩
    rw [fns_at H__law_bins.tb__law_bins, run1 rfl, show (Rc.bin b).d = .int b from rfl]
    simp [i__law_bins, exS, evE, evL, Sl.at, isTy, truth, outF, szL]
  | .nil => ⟨fun L h => by
      rcases h with ⟨_, e, _⟩ | ⟨_, h, _⟩
      · cases e
      · exact h.elim, fun L _ _ _ => trivial⟩
  | .cons lo hi q rest => by
    obtain ⟨q1, _⟩ := lb_both q
    obtain ⟨_, r2⟩ := lb_both rest
    have e : (Rc.cons lo hi q rest).bins = q.bins ++ rest.bins := rfl
    have ed : (Rc.cons lo hi q rest).dep = max (q.dep + 1) rest.dep := rfl
    have second : ∀ L : Nat, (Rc.cons lo hi q rest).row → (Rc.cons lo hi q rest).bins.length ≤ 1000 → (Rc.cons lo hi q rest).dep ≤ L → (Rc.cons lo hi q rest).each fun _ _ q => LB1 M L q := by
      intro L h len hL
      rw [e, List.length_append] at len
      rw [ed] at hL
      exact ⟨q1 L h.2.2.2.1 (by omega) (by omega), r2 L h.2.2.2.2 (by omega) (by omega)⟩
    refine ⟨fun L h len hL => ?_, second⟩
    obtain ⟨n, rfl⟩ : ∃ n, L = n + 1 := ⟨L - 1, by omega⟩
    rcases h with ⟨_, e, _⟩ | ⟨h1, h2⟩
    · cases e
    · exact lb_mix h1 trivial len (second n h1 len (by omega))
end
section
variable {M : Md} [H__law_depth M]
def LD1 (M : Md) (L : Nat) (q : Rc) : Prop := ∀ sto, (cfg M L).fns "_law_depth" [q.d] sto = some (.ok (.val (.int q.dep)), sto)
theorem max_dep {r : Rc} (h1 : r.row) (h2 : r.isMix) : maxOp [.lst ((r.subs.map fun q => (q.dep : Int)).map D.int)] = some (.val (.int (r.dep - 1))) := by
  cases r with
  | cons lo hi q rest =>
    have nb : ∀ b, rest ≠ .bin b := fun b e => by rw [e] at h1; exact h1.2.2.2.2
    have := maxI_dep rest q.dep nb h1.2.2.2.2 (by omega)
    have ed : (Rc.cons lo hi q rest).dep = max (q.dep + 1) rest.dep := rfl
    show (match allInts (((q.dep : Int) :: rest.subs.map fun q => (q.dep : Int)).map D.int) with
      | some (m :: r) => some (Rv.val (.int (maxI m r)))
      | _ => none) = _
    rw [allInts_int, ed]
    show some (Rv.val (.int (maxI (q.dep : Int) (rest.subs.map fun q => (q.dep : Int))))) = _
    congr 3
    omega
  | _ => cases h2
theorem ld_mix {n : Nat} {r : Rc} (h1 : r.row) (h2 : r.isMix) (len : r.bins.length ≤ 1000) (ev : r.each fun _ _ q => LD1 M n q) : LD1 M (n + 1) r := by
  intro sto
  rw [fns_at H__law_depth.tb__law_depth, run1 rfl, mix_d h2]
  have a : All2 (fun x y => ∃ a b c, x = .tup [a, b, c] ∧ (cfg M n).fns "_law_depth" [c] sto = some (.ok (.val y), sto)) r.ps ((r.subs.map fun q => (q.dep : Int)).map D.int) :=
    each_all2 (f := fun q => D.int q.dep) (outs := fun r => (r.subs.map fun q => (q.dep : Int)).map D.int) rfl (fun _ _ _ _ => rfl) (fun lo hi q h => ⟨_, _, _, rfl, h sto⟩) r (mix_nb h2) h1 ev
  have c := comp_rel (C := cfg M n) (vs := [1, 2, 3]) (e := c__law_depth_1) (t := .cons (.nm 1) (.cons (.nm 2) (.cons (.nm 3) .nil))) (src := .itr (.loc 0)) (s := ⟨[.val (.tup r.ps), .no, .no, .no], sto⟩) (s1 := ⟨[.val (.tup r.ps), .no, .no, .no], sto⟩) a (by simp [evI, evE, Sl.at, items1]) rfl (Nat.le_trans (Nat.le_trans (los_bins _ h1) len) (by decide)) (by
    rintro x y ⟨a, b, c, rfl, e⟩
    refine ⟨[.val (.tup r.ps), .val a, .val b, .val c], .val y, rfl, rfl, ?_, rfl⟩
    simp [c__law_depth_1, evE, evL, Sl.at, e])
  have mx := max_dep h1 h2
  simp [i__law_depth, exS, evE, evL, Sl.at, isTy, truth, outF] at c mx ⊢
  simp [c, mx, addOp]
  omega
theorem ld_both : ∀ r : Rc, (∀ L : Nat, r.ok → r.bins.length ≤ 1000 → r.dep + 1 ≤ L → LD1 M L r) ∧ ∀ L : Nat, r.row → r.bins.length ≤ 1000 → r.dep ≤ L → r.each fun _ _ q => LD1 M L q
  | .bin b => by
    refine ⟨fun L h _ hL sto => ?_, fun L h => h.elim⟩
    obtain ⟨n, rfl⟩ : ∃ n, L = n + 1 := ⟨L - 1, by omega⟩
    rw [fns_at H__law_depth.tb__law_depth, run1 rfl, show (Rc.bin b).d = .int b from rfl]
    simp [i__law_depth, exS, evE, evL, Sl.at, isTy, truth, outF, Rc.dep]
  | .nil => ⟨fun L h => by
      rcases h with ⟨_, e, _⟩ | ⟨_, h, _⟩
      · cases e
      · exact h.elim, fun L _ _ _ => trivial⟩
  | .cons lo hi q rest => by
    obtain ⟨q1, _⟩ := ld_both q
    obtain ⟨_, r2⟩ := ld_both rest
    have e : (Rc.cons lo hi q rest).bins = q.bins ++ rest.bins := rfl
    have ed : (Rc.cons lo hi q rest).dep = max (q.dep + 1) rest.dep := rfl
    have second : ∀ L : Nat, (Rc.cons lo hi q rest).row → (Rc.cons lo hi q rest).bins.length ≤ 1000 → (Rc.cons lo hi q rest).dep ≤ L → (Rc.cons lo hi q rest).each fun _ _ q => LD1 M L q := by
      intro L h len hL
      rw [e, List.length_append] at len
      rw [ed] at hL
      exact ⟨q1 L h.2.2.2.1 (by omega) (by omega), r2 L h.2.2.2.2 (by omega) (by omega)⟩
    refine ⟨fun L h len hL => ?_, second⟩
    obtain ⟨n, rfl⟩ : ∃ n, L = n + 1 := ⟨L - 1, by omega⟩
    rcases h with ⟨_, e, _⟩ | ⟨h1, h2⟩
    · cases e
    · exact ld_mix h1 trivial len (second n h1 len (by omega))
end
end Lib

set_option Elab.async false
set_option linter.all false
set_option maxRecDepth 100000
set_option maxHeartbeats 1000000
namespace Lib
open PySem L2 Pi
section
variable {M : Md}
/-! texts -/
theorem s_len (a b : Str) : (a ++ b).length = a.length + b.length := by
  show (a.cps ++ b.cps).size = _
  rw [Array.size_append]; rfl
theorem s_assoc (a b c : Str) : a ++ b ++ c = a ++ (b ++ c) := by
  show (⟨a.cps ++ b.cps ++ c.cps⟩ : Str) = ⟨a.cps ++ (b.cps ++ c.cps)⟩
  rw [Array.append_assoc]
theorem s_empty (a : Str) : Str.empty ++ a = a := by
  show (⟨#[] ++ a.cps⟩ : Str) = a
  simp
def istr (i : Int) : Str := toString i
theorem istr_len : ∀ i : Int, 0 ≤ i → i ≤ 1000 → (istr i).length ≤ 4 := by
  have h : ∀ n ∈ List.range 1001, (istr (n : Nat)).length ≤ 4 := by
    have := (show ((List.range 1001).all fun n => decide ((istr (n : Nat)).length ≤ 4)) = true by decide +kernel)
    intro n hn
    exact of_decide_eq_true (List.all_eq_true.mp this n hn)
  intro i h0 h1
  have := h i.toNat (List.mem_range.mpr (by omega))
  rwa [show ((i.toNat : Nat) : Int) = i by omega] at this
def ftx (q : Rat) : Str := if q.den = 1 then istr q.num else Str.empty ++ istr q.num ++ "/" ++ istr q.den
def ptx (lo hi : Rat) (t : Str) : Str := Str.empty ++ ftx lo ++ "-" ++ ftx hi ++ " " ++ t
def Rc.tx : Rc → Str × List Str
  | .bin b => (istr b, [])
  | .nil => (Str.empty, [])
  | .cons lo hi q rest => (Str.empty ++ "(" ++ Txt.join ", " (ptx lo hi q.tx.1 :: rest.tx.2) ++ ")", ptx lo hi q.tx.1 :: rest.tx.2)
def Rc.cells : Rc → Nat
  | .cons _ _ q rest => 1 + q.cells + rest.cells | _ => 0
theorem tj (sep : Str) (l : List Str) : Txt.join sep l = Str.join sep l := PySem.StrLaws.glued_eq_join sep l
theorem join_len0 (sep : Str) : ∀ l : List Str, (Str.join sep l).length ≤ (l.map (·.length)).sum + l.length * sep.length
  | [] => Nat.zero_le _
  | [x] => by
    show x.length ≤ _
    simp
  | x :: y :: r => by
    have i := join_len0 sep (y :: r)
    show (x ++ sep ++ Str.join sep (y :: r)).length ≤ _
    rw [s_len, s_len]
    simp only [List.map_cons, List.sum_cons, List.length_cons] at i ⊢
    have : (r.length + 1 + 1) * sep.length = (r.length + 1) * sep.length + sep.length := Nat.succ_mul _ _
    omega
theorem join_len (sep : Str) (l : List Str) : (Txt.join sep l).length ≤ (l.map (·.length)).sum + l.length * sep.length := by rw [tj]; exact join_len0 sep l
theorem ftx_len {q : Rat} (h : partOk q) : (ftx q).length ≤ 9 := by
  obtain ⟨h1, h2, h3⟩ := h
  have a := istr_len q.num h1 (by omega)
  have b := istr_len q.den (by omega) (by omega)
  have e : (Str.empty : Str).length = 0 := rfl
  have e2 : ("/" : Str).length = 1 := by decide +kernel
  unfold ftx
  split
  · omega
  · rw [s_len, s_len, s_len]; omega
/-- how long a row's texts are in all -/
theorem tx_len : ∀ r : Rc, (r.ok → r.tx.1.length ≤ 4 + 40 * r.cells) ∧ (r.row → (r.tx.2.map (·.length)).sum + r.tx.2.length * 2 ≤ 36 * r.cells + 4 * (r.cells) ∧ r.tx.2.length ≤ r.cells)
  | .bin b => by
    refine ⟨fun h => ?_, fun h => h.elim⟩
    rcases h with ⟨b', e, h0, h7⟩ | ⟨h, _⟩
    · cases e
      exact Nat.le_trans (istr_len b h0 (by omega)) (Nat.le_add_right _ _)
    · exact h.elim
  | .nil => by
    refine ⟨fun h => ?_, fun _ => ⟨Nat.le_refl _, Nat.le_refl _⟩⟩
    rcases h with ⟨b', e, _⟩ | ⟨_, h, _⟩
    · cases e
    · exact h.elim
  | .cons lo hi q rest => by
    obtain ⟨q1, _⟩ := tx_len q
    obtain ⟨_, r2⟩ := tx_len rest
    have e0 : (Str.empty : Str).length = 0 := rfl
    have e1 : ("-" : Str).length = 1 := by decide +kernel
    have e2 : (" " : Str).length = 1 := by decide +kernel
    have e3 : ("(" : Str).length = 1 := by decide +kernel
    have e4 : (")" : Str).length = 1 := by decide +kernel
    have e5 : (", " : Str).length = 2 := by decide +kernel
    have ec : (Rc.cons lo hi q rest).cells = 1 + q.cells + rest.cells := rfl
    have row : (Rc.cons lo hi q rest).row → ((Rc.cons lo hi q rest).tx.2.map (·.length)).sum + (Rc.cons lo hi q rest).tx.2.length * 2 ≤ 36 * (Rc.cons lo hi q rest).cells + 4 * (Rc.cons lo hi q rest).cells ∧ (Rc.cons lo hi q rest).tx.2.length ≤ (Rc.cons lo hi q rest).cells := by
      intro h
      have a := ftx_len h.1
      have b := ftx_len h.2.1
      have c := q1 h.2.2.2.1
      obtain ⟨i1, i2⟩ := r2 h.2.2.2.2
      have p : (ptx lo hi q.tx.1).length ≤ 9 + 1 + 9 + 1 + (4 + 40 * q.cells) := by
        unfold ptx
        simp only [s_len, e0, e1, e2]
        omega
      show ((ptx lo hi q.tx.1 :: rest.tx.2).map (·.length)).sum + (ptx lo hi q.tx.1 :: rest.tx.2).length * 2 ≤ _ ∧ (ptx lo hi q.tx.1 :: rest.tx.2).length ≤ _
      simp only [List.map_cons, List.sum_cons, List.length_cons, ec]
      omega
    refine ⟨fun h => ?_, row⟩
    rcases h with ⟨_, e, _⟩ | ⟨h1, _⟩
    · cases e
    · have i := (row h1).1
      show (Str.empty ++ "(" ++ Txt.join ", " (Rc.cons lo hi q rest).tx.2 ++ ")").length ≤ _
      have j := join_len ", " (Rc.cons lo hi q rest).tx.2
      simp only [s_len, e0, e3, e4, e5] at j ⊢
      omega
theorem bins_pos : ∀ r : Rc, r.ok → 1 ≤ r.bins.length
  | .bin _, _ => Nat.le_refl _
  | .nil, h => by
    rcases h with ⟨_, e, _⟩ | ⟨_, h, _⟩
    · cases e
    · exact h.elim
  | .cons lo hi q rest, h => by
    rcases h with ⟨_, e, _⟩ | ⟨h1, _⟩
    · cases e
    · have := los_bins _ h1
      rw [ps_cons, List.length_cons] at this
      omega
theorem cells_le : ∀ r : Rc, (r.ok ∨ r.row) → r.cells ≤ r.bins.length * r.dep
  | .bin _, _ => Nat.zero_le _
  | .nil, _ => Nat.zero_le _
  | .cons lo hi q rest, h => by
    have h1 : (Rc.cons lo hi q rest).row := by
      rcases h with (⟨_, e, _⟩ | ⟨h, _⟩) | h
      · cases e
      · exact h
      · exact h
    have a := cells_le q (.inl h1.2.2.2.1)
    have b := cells_le rest (.inr h1.2.2.2.2)
    have p := bins_pos q h1.2.2.2.1
    show 1 + q.cells + rest.cells ≤ (q.bins ++ rest.bins).length * max (q.dep + 1) rest.dep
    rw [List.length_append, Nat.add_mul]
    have c1 : q.bins.length * (q.dep + 1) ≤ q.bins.length * max (q.dep + 1) rest.dep := Nat.mul_le_mul_left _ (Nat.le_max_left _ _)
    have c2 : rest.bins.length * rest.dep ≤ rest.bins.length * max (q.dep + 1) rest.dep := Nat.mul_le_mul_left _ (Nat.le_max_right _ _)
    have c3 : q.bins.length * (q.dep + 1) = q.bins.length * q.dep + q.bins.length := Nat.mul_succ _ _
    omega
theorem log_small {i : Int} (h0 : 0 ≤ i) (h1 : i ≤ 1000) : i.natAbs.log2 < 1920 := by
  have : i.natAbs.log2 ≤ 10 := log2_le (by omega)
  omega
theorem str_small {i : Int} (h0 : 0 ≤ i) (h1 : i ≤ 1000) : strOp [.int i] = some (.val (.str (istr i))) := if_pos (log_small h0 h1)
theorem fmt_small {i : Int} (h0 : 0 ≤ i) (h1 : i ≤ 1000) : fmtD (.int i) = some (istr i) := if_pos (log_small h0 h1)
theorem fmt_str {t : Str} (h : t.length ≤ szL) : fmtD (.str t) = some t := if_pos h
theorem good_cells {r : Rc} (h : r.good) : r.cells ≤ 10000 := by
  have a := cells_le r (.inl h.1)
  have b := Nat.mul_le_mul h.2.2.1 h.2.2.2
  omega
/-! what repr tells -/
def Rp (d : D) (n h : Nat) : Prop := ∃ p : PyData, toP d = some p ∧ p.showable = true ∧ p.shown.length ≤ n ∧ p.depth ≤ h
def Rps (ds : List D) (n h : Nat) : Prop := ∃ ps : List PyData, toPs ds = some ps ∧ PyData.showableAll ps = true ∧ ((PyData.shownAll ps).map (·.length)).sum + (PyData.shownAll ps).length * 2 ≤ n ∧ PyData.depthAll ps ≤ h
theorem Rp.le {d : D} {n h n' h' : Nat} (r : Rp d n h) (a : n ≤ n') (b : h ≤ h') : Rp d n' h' := by
  obtain ⟨p, e, s, l, g⟩ := r
  exact ⟨p, e, s, by omega, by omega⟩
theorem rp_int {i : Int} (h0 : 0 ≤ i) (h1 : i ≤ 1000) : Rp (.int i) 4 0 := ⟨.int i, rfl, decide_eq_true (log_small h0 h1), istr_len i h0 h1, Nat.le_refl _⟩
theorem rp_bl (b : Bool) : Rp (.bl b) 5 0 := ⟨.bool b, rfl, rfl, by cases b <;> decide +kernel, Nat.le_refl _⟩
theorem rps_nil : Rps [] 0 0 := ⟨[], rfl, rfl, Nat.le_refl _, Nat.le_refl _⟩
theorem rps_cons {d : D} {ds : List D} {n h n' h' : Nat} (a : Rp d n h) (b : Rps ds n' h') : Rps (d :: ds) (n + 2 + n') (max h h') := by
  obtain ⟨p, e, s, l, g⟩ := a
  obtain ⟨ps, e', s', l', g'⟩ := b
  refine ⟨p :: ps, ?_, ?_, ?_, ?_⟩
  · show (toP d).bind _ = _
    rw [e, Option.bind_some, e']; rfl
  · show (p.showable && PyData.showableAll ps) = true
    rw [s, s']; rfl
  · show ((p.shown :: PyData.shownAll ps).map (·.length)).sum + (p.shown :: PyData.shownAll ps).length * 2 ≤ _
    simp only [List.map_cons, List.sum_cons, List.length_cons]
    omega
  · show max p.depth (PyData.depthAll ps) ≤ _
    omega
theorem rp_tup {ds : List D} {n h : Nat} (a : Rps ds n h) : Rp (.tup ds) (n + 3) (h + 1) := by
  obtain ⟨ps, e, s, l, g⟩ := a
  refine ⟨.tuple ps, by show (toPs ds).map _ = _; rw [e]; rfl, s, ?_, by show PyData.depthAll ps + 1 ≤ _; omega⟩
  show (("(" : Str) ++ Str.join ", " (PyData.shownAll ps) ++ (if (PyData.shownAll ps).length == 1 then ",)" else ")" : String) : Str).length ≤ _
  have j := join_len0 ", " (PyData.shownAll ps)
  have e5 : (", " : Str).length = 2 := by decide +kernel
  have e3 : ("(" : Str).length = 1 := by decide +kernel
  have e6 : ((if (PyData.shownAll ps).length == 1 then ",)" else ")" : String) : Str).length ≤ 2 := by split <;> decide +kernel
  rw [e5] at j
  rw [s_len, s_len, e3]
  omega
theorem textFrom_le : ∀ (ts : List Str) (k : Nat) (acc : Str), (textFrom k acc ts).length ≤ acc.length + (ts.map (·.length)).sum + ts.length * 2
  | [], _, _ => Nat.le_refl _
  | t :: r, k, acc => by
    have i := textFrom_le r (k + 1) (acc ++ (if k > 0 then ", " else "" : String) ++ t)
    have e6 : ((if k > 0 then ", " else "" : String) : Str).length ≤ 2 := by split <;> decide +kernel
    rw [s_len, s_len] at i
    show (textFrom (k + 1) (acc ++ (if k > 0 then ", " else "" : String) ++ t) r).length ≤ _
    simp only [List.map_cons, List.sum_cons, List.length_cons]
    omega
theorem rp_lst {ds : List D} {n h : Nat} (a : Rps ds n h) : Rp (.lst ds) (n + 3) (h + 1) := by
  obtain ⟨ps, e, s, l, g⟩ := a
  refine ⟨.list ps, by show (toPs ds).map _ = _; rw [e]; rfl, s, ?_, by show PyData.depthAll ps + 1 ≤ _; omega⟩
  show (textFrom 0 "[" (PyData.shownAll ps) ++ "]").length ≤ _
  have j := textFrom_le (PyData.shownAll ps) 0 "["
  have e5 : ("[" : Str).length = 1 := by decide +kernel
  have e3 : ("]" : Str).length = 1 := by decide +kernel
  rw [s_len, e3]
  omega
theorem rp_fr {q : Rat} (h : partOk q) : Rp (fr q) 15 1 := by
  obtain ⟨h1, h2, h3⟩ := h
  exact rp_tup (n := 12) (h := 0) (rps_cons (rp_int h1 (by omega)) (rps_cons (rp_int (i := (q.den : Int)) (by omega) (by omega)) rps_nil))
theorem rp_both : ∀ r : Rc, (r.ok → Rp r.d (7 + 60 * r.cells) (2 * r.dep + 1)) ∧ (r.row → Rps r.ps (60 * r.cells) (2 * r.dep))
  | .bin b => by
    refine ⟨fun h => ?_, fun h => h.elim⟩
    rcases h with ⟨_, e, h0, h7⟩ | ⟨h, _⟩
    · cases e
      exact (rp_int h0 (by omega)).le (by omega) (by omega)
    · exact h.elim
  | .nil => by
    refine ⟨fun h => ?_, fun _ => rps_nil⟩
    rcases h with ⟨_, e, _⟩ | ⟨_, h, _⟩
    · cases e
    · exact h.elim
  | .cons lo hi q rest => by
    obtain ⟨q1, _⟩ := rp_both q
    obtain ⟨_, r2⟩ := rp_both rest
    have ec : (Rc.cons lo hi q rest).cells = 1 + q.cells + rest.cells := rfl
    have ed : (Rc.cons lo hi q rest).dep = max (q.dep + 1) rest.dep := rfl
    have row : (Rc.cons lo hi q rest).row → Rps (Rc.cons lo hi q rest).ps (60 * (Rc.cons lo hi q rest).cells) (2 * (Rc.cons lo hi q rest).dep) := by
      intro h
      have part := rp_tup (rps_cons (rp_fr h.1) (rps_cons (rp_fr h.2.1) (rps_cons (q1 h.2.2.2.1) rps_nil)))
      obtain ⟨ps, e, s, l, g⟩ := rps_cons part (r2 h.2.2.2.2)
      rw [ps_cons]
      exact ⟨ps, e, s, by rw [ec]; omega, by rw [ed]; omega⟩
    refine ⟨fun h => ?_, row⟩
    rcases h with ⟨_, e, _⟩ | ⟨h1, _⟩
    · cases e
    · exact (rp_tup (row h1)).le (by omega) (by omega)
theorem rep_some {d : D} {n h : Nat} (r : Rp d n h) (a : n ≤ szL) (b : h ≤ 64) : ∃ t : Str, reprOp [d] = some (.val (.str t)) ∧ t.length ≤ szL := by
  obtain ⟨p, e, s, l, g⟩ := r
  refine ⟨p.shown, ?_, by omega⟩
  show (toP d).bind _ = _
  rw [e, Option.bind_some]
  exact if_pos ⟨s, by omega, by omega⟩
end
section
variable {M : Md} [H__law_is M]
theorem eq_str (t t' : Str) : eqO (.str t) (.str t') = some (t == t') := rfl
theorem sp_is {k n h : Nat} {d : D} {sto : List (List D)} (r : Rp d n h) (a : n ≤ szL) (b : h ≤ 64) : (cfg M (k + 1)).fns "_law_is" [d, d] sto = some (.ok (.val (.bl true)), sto) := by
  obtain ⟨t, e, lt⟩ := rep_some r a b
  rw [fns_at H__law_is.tb__law_is, run1 rfl]
  simp [i__law_is, exS, evE, evL, Sl.at, brw, Opd.get, e, eq_str, outF]
end
section
variable {M : Md}
/-! one part within one part -/
def chain (r : Rc) : Nat → Rc
  | 0 => r
  | n + 1 => chain (.cons 0 1 r .nil) n
theorem fr_zero : fr 0 = .tup [.int 0, .int 1] := rfl
theorem chain_d (r : Rc) : (Rc.cons 0 1 r .nil).d = .tup [.tup [.tup [.int 0, .int 1], .tup [.int 1, .int 1], r.d]] := rfl
end
section
variable {M : Md} [H__law_chain M]
theorem sp_chain {k many : Nat} {r : Rc} {sto : List (List D)} (hm : many ≤ 100) : (cfg M (k + 1)).fns "_law_chain" [r.d, .int many] sto = some (.ok (.val (chain r many).d), sto) := by
  rw [fns_at H__law_chain.tb__law_chain, run1 rfl]
  have s1 : (1 : Nat) ≤ szL := by decide
  have s2 : (2 : Nat) ≤ szL := by decide
  have s3 : (3 : Nat) ≤ szL := by decide
  have go : ∀ (items : List D) (r : Rc) (n : Nat) (e2 : Sl), items.length = n → ∃ e2', forGo (.nm 2) (exS (cfg M k) b__law_chain_1) items ⟨[.val r.d, .val (.int many), e2], sto⟩ = okk .nx ⟨[.val (chain r n).d, .val (.int many), e2'], sto⟩ := by
    intro items
    induction items with
    | nil => exact fun r n e2 hn => ⟨e2, by cases hn; rfl⟩
    | cons x items ih =>
      intro r n e2 hn
      cases n with
      | zero => cases hn
      | succ n =>
        obtain ⟨e2', q⟩ := ih (.cons 0 1 r .nil) n (.val x) (by simpa using hn)
        refine ⟨e2', ?_⟩
        have hb : bindT (.nm 2) x [.val r.d, .val (.int many), e2] = some [.val r.d, .val (.int many), .val x] := rfl
        have body : exS (cfg M k) b__law_chain_1 ⟨[.val r.d, .val (.int many), .val x], sto⟩ = okk .nx ⟨[.val (Rc.cons 0 1 r .nil).d, .val (.int many), .val x], sto⟩ := by
          rw [chain_d]
          simp [b__law_chain_1, exS, evE, evL, Sl.at, s1, s2, s3, setT, bindT]
        rw [forGo_cons, hb]
        simp only [body, okk]
        exact q
  obtain ⟨e2', q⟩ := go ((List.range many).map fun (i : Nat) => D.int i) r many .no (by simp)
  have ci : evI (cfg M k) (.rng1 (.loc 1)) ⟨[.val r.d, .val (.int many), .no], sto⟩ = okk ((List.range many).map fun (i : Nat) => D.int i) ⟨[.val r.d, .val (.int many), .no], sto⟩ := evI_rng1 (x := .int (many : Int)) (by simp [evE, Sl.at]) (rng1_nat ⟨by omega, by omega⟩)
  have st := (for_ex (t := .nm 2) (b := b__law_chain_1) ci).trans q
  show outF (exS (cfg M k) i__law_chain.body ⟨[.val r.d, .val (.int many), .no], sto⟩) = _
  unfold i__law_chain
  simp only []
  rw [seq_nx st]
  simp [exS, evE, Sl.at, outF]
end
section
variable {M : Md}
/-! what the law's turns lean on -/
theorem chain_good {r : Rc} (h : r.ok) (nd : r.bins.Nodup) (len : r.bins.length ≤ 1000) : (Rc.cons 0 1 r .nil).ok ∧ (Rc.cons 0 1 r .nil).bins = r.bins ∧ (Rc.cons 0 1 r .nil).dep = r.dep + 1 := by
  have p0 : partOk 0 := ⟨by decide, by decide, by decide⟩
  have p1 : partOk 1 := ⟨by decide, by decide, by decide⟩
  have le : (0 : Rat) ≤ 1 := by decide
  refine ⟨.inr ⟨⟨p0, p1, le, h, trivial⟩, trivial, by show 1 ≤ 8; omega, ?_, ?_, ?_, ?_⟩, List.append_nil _, by show max (r.dep + 1) 0 = _; omega⟩
  · intro p s e
    match p, e with
    | [], _ => exact partOk_sq p0
    | [a], e =>
      have : a = 0 := by
        have : [a] ++ s = [0] := e
        simpa using (List.cons.inj this).1
      subst this
      show sq (0 + 0)
      rw [Rat.add_zero]; exact partOk_sq p0
    | a :: b :: p, e =>
      have := congrArg List.length (show (a :: b :: p) ++ s = [0] from e)
      simp at this
  · intro p s e
    match p, e with
    | [], _ => exact partOk_sq p0
    | [a], e =>
      have : a = 1 := by
        have : [a] ++ s = [1] := e
        simpa using (List.cons.inj this).1
      subst this
      show sq (0 + 1)
      rw [Rat.zero_add]; exact partOk_sq p1
    | a :: b :: p, e =>
      have := congrArg List.length (show (a :: b :: p) ++ s = [1] from e)
      simp at this
  · show (0 : Rat) + 0 ≤ 1
    rw [Rat.add_zero]; exact le
  · show (1 : Rat) ≤ 0 + 1
    rw [Rat.zero_add]; exact Rat.le_refl
theorem chain_all : ∀ (n : Nat) (r : Rc), r.ok → r.bins.Nodup → r.bins.length ≤ 1000 → (chain r n).ok ∧ (chain r n).bins = r.bins ∧ (chain r n).dep = r.dep + n
  | 0, r, h, _, _ => ⟨h, rfl, rfl⟩
  | n + 1, r, h, nd, len => by
    obtain ⟨a, b, c⟩ := chain_good h nd len
    obtain ⟨i, j, k⟩ := chain_all n (.cons 0 1 r .nil) a (by rw [b]; exact nd) (by rw [b]; exact len)
    exact ⟨i, by rw [show chain r (n + 1) = chain (.cons 0 1 r .nil) n from rfl, j, b], by rw [show chain r (n + 1) = chain (.cons 0 1 r .nil) n from rfl, k, c]; omega⟩
theorem each_good : ∀ r : Rc, r.row → r.bins.Nodup → r.bins.length ≤ 1000 → r.dep ≤ 6 → r.each fun _ _ q => q.good
  | .bin _, h, _, _, _ => h.elim
  | .nil, _, _, _, _ => trivial
  | .cons lo hi q rest, h, nd, len, hd => by
    have e : (Rc.cons lo hi q rest).bins = q.bins ++ rest.bins := rfl
    have ed : (Rc.cons lo hi q rest).dep = max (q.dep + 1) rest.dep := rfl
    rw [e] at nd len
    rw [List.length_append] at len
    rw [ed] at hd
    have nd' := List.nodup_append.mp nd
    exact ⟨⟨h.2.2.2.1, nd'.1, by omega, by omega⟩, each_good rest h.2.2.2.2 nd'.2.1 (by omega) (by omega)⟩
theorem rps_ints : ∀ l : List Int, (∀ i ∈ l, 0 ≤ i ∧ i ≤ 1000) → Rps (l.map .int) (6 * l.length) 0
  | [], _ => rps_nil
  | i :: l, h => by
    obtain ⟨h0, h1⟩ := h i List.mem_cons_self
    obtain ⟨ps, e, s, a, b⟩ := rps_cons (rp_int h0 h1) (rps_ints l fun x hx => h x (List.mem_cons_of_mem _ hx))
    exact ⟨ps, e, s, by rw [List.length_cons]; omega, by omega⟩
theorem bins_b : ∀ r : Rc, (r.ok ∨ r.row) → ∀ b ∈ r.bins, 0 ≤ b ∧ b ≤ 7
  | .bin b, h, x, hx => by
    rcases h with (⟨_, e, h0, h7⟩ | ⟨h, _⟩) | h
    · cases e
      rw [List.mem_singleton.mp hx]; exact ⟨h0, h7⟩
    · exact h.elim
    · exact h.elim
  | .nil, _, x, hx => by cases hx
  | .cons lo hi q rest, h, x, hx => by
    have h1 : (Rc.cons lo hi q rest).row := by
      rcases h with (⟨_, e, _⟩ | ⟨h, _⟩) | h
      · cases e
      · exact h
      · exact h
    rcases List.mem_append.mp (show x ∈ q.bins ++ rest.bins from hx) with hx | hx
    · exact bins_b q (.inl h1.2.2.2.1) x hx
    · exact bins_b rest (.inr h1.2.2.2.2) x hx
theorem rp_bins {r : Rc} (h : r.good) : Rp (.tup ((sortI r.bins).map .int)) 6003 1 := by
  have l := (sortI_perm r.bins).length_eq
  have g := h.2.2.1
  exact (rp_tup (rps_ints (sortI r.bins) fun i hi => by
    have := bins_b r (.inl h.1) i ((sortI_perm r.bins).mem_iff.mp hi)
    omega)).le (by omega) (by omega)
/-- the frame of a turn -/
theorem sorted_bins (l : List Int) : sortedOp [.lst (l.map .int)] = some (.new ((sortI l).map .int)) := by
  show (allInts _).map _ = _
  rw [allInts_int]; rfl
end
end Lib

set_option Elab.async false
set_option linter.all false
set_option maxRecDepth 100000
set_option maxHeartbeats 1000000
namespace Lib
open PySem L2 Pi
/-! ### right recipes are found, with their bins -/
theorem pd_fr {q : Rat} (h : partOk q) : pd (fr q) = true := sq_pd (partOk_sq h)
theorem pd_small {i : Int} (h0 : -1000000 ≤ i) (h1 : i ≤ 1000000) : pd (.int i) = true := by
  have : (2 : Nat) ^ 20 ≤ 2 ^ 8000 := two_pow_le (by decide)
  exact decide_eq_true (p := i.natAbs < 2 ^ 8000) (by omega)
theorem pd_rc : ∀ r : Rc, (r.ok → pd r.d = true) ∧ (r.row → pds r.ps = true)
  | .bin b => ⟨fun h => by
      rcases h with ⟨b', e, h0, h1⟩ | ⟨h, _⟩
      · cases e; exact pd_small (by omega) (by omega)
      · exact h.elim, fun h => h.elim⟩
  | .nil => ⟨fun h => by
      rcases h with ⟨b', e, _⟩ | ⟨_, h, _⟩
      · cases e
      · exact h.elim, fun _ => rfl⟩
  | .cons lo hi q rest => by
    have row : (Rc.cons lo hi q rest).row → pds (Rc.cons lo hi q rest).ps = true := by
      intro h
      obtain ⟨h1, h2, h3, h4, h5⟩ := h
      show ((pd (fr lo) && (pd (fr hi) && (pd q.d && true))) && pds rest.ps) = true
      rw [pd_fr h1, pd_fr h2, (pd_rc q).1 h4, (pd_rc rest).2 h5]; rfl
    refine ⟨fun h => ?_, row⟩
    rcases h with ⟨b', e, _⟩ | ⟨h, _⟩
    · cases e
    · exact row h
theorem rc_los : ∀ r : Rc, (r.ps.map fun x => rat (fst3 x)) = r.los ∧ (r.ps.map fun x => rat (snd3 x)) = r.his
  | .bin _ => ⟨rfl, rfl⟩
  | .nil => ⟨rfl, rfl⟩
  | .cons lo hi q rest => by
    obtain ⟨h1, h2⟩ := rc_los rest
    constructor
    · show rat (fr lo) :: (rest.ps.map fun x => rat (fst3 x)) = lo :: rest.los
      rw [rat_fr, h1]
    · show rat (fr hi) :: (rest.ps.map fun x => rat (snd3 x)) = hi :: rest.his
      rw [rat_fr, h2]
theorem sums_rc {r : Rc} (h : r.mixOk) : sumsOk r.ps = true := by
  obtain ⟨_, _, _, _, h5, h6⟩ := h
  unfold sumsOk
  rw [(rc_los r).1, (rc_los r).2, decide_eq_true (p := rsum r.los ≤ 1) h5, decide_eq_true (p := 1 ≤ rsum r.his) h6]; rfl
theorem any_mem (B F : List Int) : (B.any fun b => decide (b ∈ F)) = true ↔ ∃ b ∈ B, b ∈ F := by
  rw [List.any_eq_true]
  simp only [decide_eq_true_eq]
theorem fb_rc : ∀ (r : Rc), (∀ n, r.ok → fb n r.d = if r.dep ≤ n ∧ r.bins.Nodup then some r.bins else none) ∧
    (∀ n F, r.row → F.Nodup → fbs (fb n) r.ps F = if r.dep ≤ n + 1 ∧ (F ++ r.bins).Nodup then some (F ++ r.bins) else none)
  | .bin b => ⟨fun n h => by
      rcases h with ⟨b', e, h0, h1⟩ | ⟨h, _⟩
      · cases e
        show fb n (.int b) = if 0 ≤ n ∧ [b].Nodup then some [b] else none
        rw [fb_int, if_pos ⟨h0, h1⟩, if_pos ⟨Nat.zero_le _, by simp⟩]
      · exact h.elim, fun n F h => h.elim⟩
  | .nil => ⟨fun n h => by
      rcases h with ⟨b', e, _⟩ | ⟨_, h, _⟩
      · cases e
      · exact h.elim, fun n F _ nd => by
        show some F = if 0 ≤ n + 1 ∧ (F ++ []).Nodup then some (F ++ []) else none
        rw [List.append_nil, if_pos ⟨Nat.zero_le _, nd⟩]⟩
  | .cons lo hi q rest => by
    obtain ⟨q1, _⟩ := fb_rc q
    obtain ⟨_, r2⟩ := fb_rc rest
    have eb : (Rc.cons lo hi q rest).bins = q.bins ++ rest.bins := rfl
    have ed : (Rc.cons lo hi q rest).dep = max (q.dep + 1) rest.dep := rfl
    have row : ∀ n F, (Rc.cons lo hi q rest).row → F.Nodup → fbs (fb n) (Rc.cons lo hi q rest).ps F = if (Rc.cons lo hi q rest).dep ≤ n + 1 ∧ (F ++ (Rc.cons lo hi q rest).bins).Nodup then some (F ++ (Rc.cons lo hi q rest).bins) else none := by
      intro n F h nd
      obtain ⟨h1, h2, h3, h4, h5⟩ := h
      rw [ps_cons, fbs_cons, eb, ed, ← List.append_assoc]
      have pt : isPt (.tup [fr lo, fr hi, q.d]) = true := by
        rw [isPt_fr, decide_eq_true h1, decide_eq_true h2, decide_eq_true h3]; rfl
      rw [pt, if_pos rfl, show trd3 (.tup [fr lo, fr hi, q.d]) = q.d from rfl, q1 n h4]
      by_cases hq : q.dep ≤ n ∧ q.bins.Nodup
      · rw [if_pos hq]
        show (match (if (q.bins.any fun b => decide (b ∈ F)) = true then (none : Option (List Int)) else some q.bins) with
          | some B => fbs (fb n) rest.ps (F ++ B)
          | none => none) = _
        by_cases ha : (q.bins.any fun b => decide (b ∈ F)) = true
        · rw [if_pos ha, if_neg]
          rintro ⟨_, nd2⟩
          obtain ⟨b, b1, b2⟩ := (any_mem _ _).mp ha
          have := (List.nodup_append.mp (List.nodup_append.mp nd2).1).2.2
          exact this b b2 b b1 rfl
        · rw [if_neg ha]
          have nd2 : (F ++ q.bins).Nodup := by
            rw [List.nodup_append]
            exact ⟨nd, hq.2, fun a ha' b hb e => ha ((any_mem _ _).mpr ⟨b, hb, e ▸ ha'⟩)⟩
          show fbs (fb n) rest.ps (F ++ q.bins) = _
          rw [r2 n (F ++ q.bins) h5 nd2]
          by_cases hr : rest.dep ≤ n + 1 ∧ (F ++ q.bins ++ rest.bins).Nodup
          · rw [if_pos hr, if_pos ⟨Nat.max_le.mpr ⟨Nat.succ_le_succ hq.1, hr.1⟩, hr.2⟩]
          · rw [if_neg hr, if_neg]
            rintro ⟨a, b⟩
            exact hr ⟨(Nat.max_le.mp a).2, b⟩
      · rw [if_neg hq]
        show none = _
        rw [if_neg]
        rintro ⟨a, b⟩
        refine hq ⟨Nat.le_of_succ_le_succ (Nat.max_le.mp a).1, ?_⟩
        rw [List.append_assoc] at b
        exact (List.nodup_append.mp (List.nodup_append.mp b).2.1).1
    refine ⟨fun n h => ?_, row⟩
    rcases h with ⟨b', e, _⟩ | ⟨h1, h2⟩
    · cases e
    · have m2 := h2.2.1
      have hl : 1 ≤ (Rc.cons lo hi q rest).ps.length ∧ (Rc.cons lo hi q rest).ps.length ≤ 8 := by
        rw [ps_len]
        exact ⟨by show 1 ≤ (lo :: rest.los).length; simp, m2⟩
      cases n with
      | zero =>
        show none = _
        rw [if_neg]
        rintro ⟨a, _⟩
        rw [ed] at a
        exact absurd (Nat.max_le.mp a).1 (Nat.not_succ_le_zero _)
      | succ n =>
        show (if 1 ≤ (Rc.cons lo hi q rest).ps.length ∧ (Rc.cons lo hi q rest).ps.length ≤ 8 then (match fbs (fb n) (Rc.cons lo hi q rest).ps [] with
          | some F => if sumsOk (Rc.cons lo hi q rest).ps then some F else none
          | none => none) else none) = _
        rw [if_pos hl, row n [] h1 List.nodup_nil, List.nil_append, sums_rc h2]
        by_cases hc : (Rc.cons lo hi q rest).dep ≤ n + 1 ∧ (Rc.cons lo hi q rest).bins.Nodup
        · rw [if_pos hc]; rfl
        · rw [if_neg hc]
theorem fb_good {r : Rc} (h : r.good) : fb 6 r.d = some r.bins := by
  rw [(fb_rc r).1 6 h.1, if_pos ⟨h.2.2.2, h.2.1⟩]
theorem bins7 {r : Rc} (h : r.ok) : ∀ b ∈ r.bins, 0 ≤ b ∧ b ≤ 7 := bins_b r (.inl h)
theorem few_below : ∀ (n : Nat) (l : List Nat), l.Nodup → (∀ x ∈ l, x < n) → l.length ≤ n
  | 0, [], _, _ => Nat.le_refl _
  | 0, x :: l, _, h => absurd (h x List.mem_cons_self) (Nat.not_lt_zero _)
  | n + 1, l, nd, h => by
    by_cases hn : n ∈ l
    · have e := List.length_erase_of_mem hn
      have := few_below n (l.erase n) (nd.erase n) fun x hx => by
        have h1 := (nd.mem_erase_iff).mp hx
        have := h x h1.2
        have := h1.1
        omega
      omega
    · have := few_below n l nd fun x hx => by
        have := h x hx
        have : x ≠ n := fun e => hn (e ▸ hx)
        omega
      omega
/-- unlike bins are eight at most -/
theorem bins8 {l : List Int} (h : ∀ b ∈ l, 0 ≤ b ∧ b ≤ 7) (nd : l.Nodup) : l.length ≤ 8 := by
  have nd2 : (l.map Int.toNat).Nodup := by
    rw [List.Nodup, List.pairwise_map]
    refine List.Pairwise.imp_of_mem ?_ nd
    intro a b ha hb n e
    have := h a ha
    have := h b hb
    exact n (by omega)
  have := few_below 8 _ nd2 fun x hx => by
    obtain ⟨b, hb, rfl⟩ := List.mem_map.mp hx
    have := h b hb
    omega
  simpa using this
/-! ### one recipe in the place of a bin -/
def Rc.put : Rc → Int → Rc → Rc
  | .bin x, b, o => if x = b then o else .bin x
  | .nil, _, _ => .nil
  | .cons lo hi q rest, b, o => .cons lo hi (q.put b o) (rest.put b o)
theorem put_los (b : Int) (o : Rc) : ∀ r : Rc, r.row → (r.put b o).los = r.los ∧ (r.put b o).his = r.his
  | .bin _, h => h.elim
  | .nil, _ => ⟨rfl, rfl⟩
  | .cons lo hi q rest, h => by
    obtain ⟨i, j⟩ := put_los b o rest h.2.2.2.2
    exact ⟨congrArg (lo :: ·) i, congrArg (hi :: ·) j⟩
theorem put_ok (b : Int) {o : Rc} (ho : o.ok) : ∀ r : Rc, (r.ok → (r.put b o).ok) ∧ (r.row → (r.put b o).row)
  | .bin x => ⟨fun h => by
      show (if x = b then o else .bin x).ok
      split
      · exact ho
      · exact h, fun h => h.elim⟩
  | .nil => ⟨fun h => h, fun h => h⟩
  | .cons lo hi q rest => by
    have row : (Rc.cons lo hi q rest).row → ((Rc.cons lo hi q rest).put b o).row := fun h => ⟨h.1, h.2.1, h.2.2.1, (put_ok b ho q).1 h.2.2.2.1, (put_ok b ho rest).2 h.2.2.2.2⟩
    refine ⟨fun h => ?_, row⟩
    rcases h with ⟨_, e, _⟩ | ⟨h1, h2⟩
    · cases e
    · obtain ⟨i, j⟩ := put_los b o _ h1
      obtain ⟨m1, m2, m3, m4, m5, m6⟩ := h2
      exact .inr ⟨row h1, trivial, by rw [i]; exact m2, by rw [i]; exact m3, by rw [j]; exact m4, by rw [i]; exact m5, by rw [j]; exact m6⟩
theorem put_self (b : Int) : ∀ r : Rc, r.put b (.bin b) = r
  | .bin x => by
    show (if x = b then Rc.bin b else .bin x) = _
    split
    · rename_i e; rw [e]
    · rfl
  | .nil => rfl
  | .cons lo hi q rest => by
    show Rc.cons lo hi (q.put b (.bin b)) (rest.put b (.bin b)) = _
    rw [put_self b q, put_self b rest]
end Lib

set_option Elab.async false
set_option linter.all false
set_option maxRecDepth 100000
set_option maxHeartbeats 1000000
namespace Lib
open PySem L2 Pi
section
variable {M : Md} {ms : List (List D)} [H__law_drawn M]
/-! drawing -/
theorem sm_small {i : Int} (h0 : -(2 ^ 200) < i) (h1 : i < 2 ^ 200) : sm i := sm_of (n := 200) (by omega) (by decide)
def hd (ms : List (List D)) (c : List Int) (i u s n : Int) : List (List D) := ms ++ [[.lst (c.map .int), .int i, .int u, .int s, .int n]]
structure Hk0 (m : Nat) (c : List Int) (i u s n : Int) : Prop where
  cs : ∀ x ∈ c, 0 ≤ x ∧ x < 10 ^ 36
  i0 : 0 ≤ i
  u0 : 0 ≤ u
  u1 : u < 10 ^ 36
  s0 : 0 ≤ s
  s1 : s < 2 ^ 40
  n0 : 0 ≤ n
  n1 : n ≤ m
/-- the hand stands so; at most m draws of its own were made -/
def Hk (ms : List (List D)) (m : Nat) (sto : List (List D)) : Prop := ∃ c i u s n, sto = hd ms c i u s n ∧ Hk0 m c i u s n
theorem Hk.le {m m' : Nat} {sto : List (List D)} (h : Hk ms m sto) (l : m ≤ m') : Hk ms m' sto := by
  obtain ⟨c, i, u, s, n, e, h⟩ := h
  exact ⟨c, i, u, s, n, e, ⟨h.cs, h.i0, h.u0, h.u1, h.s0, h.s1, h.n0, by have := h.n1; omega⟩⟩
theorem pow18 : powOp (.int 10) (.int 18) = some (.val (.int 1000000000000000000)) := by rfl
theorem pow36 : powOp (.int 10) (.int 36) = some (.val (.int 1000000000000000000000000000000000000)) := by rfl
theorem int_int (i : Int) : intOp [.int i] = some (.val (.int i)) := rfl
theorem at_ints {c : List Int} {i : Int} (h0 : 0 ≤ i) (h1 : i < c.length) : ∃ x ∈ c, atD (c.map D.int) i = some (.int x) := by
  have h : i.toNat < c.length := by omega
  refine ⟨c[i.toNat], List.getElem_mem h, ?_⟩
  unfold atD ixOf
  rw [List.length_map, if_pos h0, if_pos h1]
  show (c.map D.int)[i.toNat]? = _
  rw [List.getElem?_map, List.getElem?_eq_getElem h]; rfl
theorem hd0 {c : D} {i u s n : Int} : atD [c, .int i, .int u, .int s, .int n] 0 = some c := by simp [atD, ixOf]
theorem hd1 {c : D} {i u s n : Int} : atD [c, .int i, .int u, .int s, .int n] 1 = some (.int i) := by simp [atD, ixOf]
theorem hd2 {c : D} {i u s n : Int} : atD [c, .int i, .int u, .int s, .int n] 2 = some (.int u) := by simp [atD, ixOf]
theorem hd3 {c : D} {i u s n : Int} : atD [c, .int i, .int u, .int s, .int n] 3 = some (.int s) := by simp [atD, ixOf]
theorem hd4 {c : D} {i u s n : Int} : atD [c, .int i, .int u, .int s, .int n] 4 = some (.int n) := by simp [atD, ixOf]
theorem draw1 {C : Cfg} {m : Nat} {c : List Int} {i u s n many : Int} (h : Hk0 m c i u s n) : ∃ i' u' s' e3, Hk0 m c i' u' s' n ∧ exS C (.ite (.tand (.cmp .Eq (.idx (.loc 0) (.cI 2)) (.cI 0)) (.cmp .Lt (.idx (.loc 0) (.cI 1)) (.len (.idx (.loc 0) (.cI 0)))))
  (.seq (.set (.nm 3) (.idx (.idx (.loc 0) (.cI 0)) (.idx (.loc 0) (.cI 1))))
  (.seq (.put (.loc 0) (.cI 1) (.bin .Add (.idx (.loc 0) (.cI 1)) (.cI 1)))
  (.seq (.put (.loc 0) (.cI 3) (.bin .Mod (.blt .int (.cons (.bin .Add (.bin .Add (.bin .Mult (.idx (.loc 0) (.cI 3)) (.cI 69621)) (.bin .Mult (.loc 3) (.cI 40692))) (.cI 733)) .nil)) (.cI 2147483629)))
  (.seq (.ite (.cmp .GtE (.loc 3) (.bin .Pow (.cI 10) (.cI 18)))
  (.seq (.put (.loc 0) (.cI 2) (.loc 3))
  .skip)
  .skip)
  .skip))))
  .skip) ⟨[.val (.ref ms.length), .val (.int many), .no, .no, .no], hd ms c i u s n⟩ = okk .nx ⟨[.val (.ref ms.length), .val (.int many), .no, e3, .no], hd ms c i' u' s' n⟩ := by
  have sm1 : sm 69621 := sm_small (by omega) (by omega)
  have sm2 : sm 40692 := sm_small (by omega) (by omega)
  have sms : sm s := sm_small (by have := h.s0; omega) (by have := h.s1; omega)
  by_cases hu : u = 0
  · by_cases hi : i < c.length
    · obtain ⟨x, hx, ax⟩ := at_ints h.i0 hi
      obtain ⟨x0, x1⟩ := h.cs x hx
      have smx : sm x := sm_small (by omega) (by omega)
      have mp := mod_pos (i := s * 69621 + x * 40692 + 733) (j := 2147483629) (by omega)
      have r0 : 0 ≤ (s * 69621 + x * 40692 + 733) % 2147483629 := Int.emod_nonneg _ (by omega)
      have r1 : (s * 69621 + x * 40692 + 733) % 2147483629 < 2147483629 := Int.emod_lt_of_pos _ (by omega)
      subst hu
      by_cases hb : 1000000000000000000 ≤ x
      · refine ⟨i + 1, x, (s * 69621 + x * 40692 + 733) % 2147483629, .val (.int x), ⟨h.cs, by have := h.i0; omega, x0, x1, r0, by omega, h.n0, h.n1⟩, ?_⟩
        simp [exS, evE, evL, hd, Sl.at, brw, Opd.get, isMk, Opd.put, idxOp, hd0, hd1, hd2, hd3, hd4, eq_int, lenOp, ltOp, hi, ax, setT, bindT, add_int, ixOf, mul_sm sms sm1, mul_sm smx sm2, int_int, mp, pow18, geOp, hb]
      · refine ⟨i + 1, 0, (s * 69621 + x * 40692 + 733) % 2147483629, .val (.int x), ⟨h.cs, by have := h.i0; omega, by omega, by omega, r0, by omega, h.n0, h.n1⟩, ?_⟩
        simp [exS, evE, evL, hd, Sl.at, brw, Opd.get, isMk, Opd.put, idxOp, hd0, hd1, hd2, hd3, hd4, eq_int, lenOp, ltOp, hi, ax, setT, bindT, add_int, ixOf, mul_sm sms sm1, mul_sm smx sm2, int_int, mp, pow18, geOp, hb]
    · refine ⟨i, u, s, .no, h, ?_⟩
      subst hu
      simp [exS, evE, evL, hd, Sl.at, brw, Opd.get, isMk, Opd.put, idxOp, hd0, hd1, hd2, hd3, hd4, eq_int, lenOp, ltOp, hi]
  · refine ⟨i, u, s, .no, h, ?_⟩
    simp [exS, evE, evL, hd, Sl.at, brw, Opd.get, isMk, Opd.put, idxOp, hd0, hd1, hd2, hd3, hd4, eq_int, hu]
theorem sp_draw {k m : Nat} {many : Int} {sto : List (List D)} (h : Hk ms m sto) (hm : m < 2 ^ 100) (h0 : 0 < many) (h1 : many < 2 ^ 62) :
    ∃ v sto', (cfg M (k + 1)).fns "_law_draw" [.ref ms.length, .int many] sto = some (.ok (.val (.int v)), sto') ∧ 0 ≤ v ∧ v < many ∧ Hk ms (m + 1) sto' := by
  obtain ⟨c, i, u, s, n, rfl, h⟩ := h
  rw [fns_at H__law_draw.tb__law_draw, run1 rfl]
  obtain ⟨i', u', s', e3, h', d1⟩ := draw1 (C := cfg M k) (many := many) h
  show ∃ v sto', outF (exS (cfg M k) i__law_draw.body ⟨[.val (.ref ms.length), .val (.int many), .no, .no, .no], hd ms c i u s n⟩) = _ ∧ _
  unfold i__law_draw
  simp only []
  rw [seq_nx d1]
  have smm : sm many := sm_small (by omega) (by omega)
  have u1 := h'.u1
  have u0 := h'.u0
  by_cases hu : 0 < u'
  · have mp := mod_pos (i := u') h0
    have dp := div_sm (i := u') h0 smm
    have q0 : 0 ≤ u' / many := Int.ediv_nonneg u0 (by omega)
    have q1 : u' / many ≤ u' := Int.ediv_le_self _ u0
    refine ⟨u' % many, hd ms c i' (u' / many) s' n, ?_, Int.emod_nonneg _ (by omega), Int.emod_lt_of_pos _ h0, c, i', u' / many, s', n, rfl, ⟨h'.cs, h'.i0, q0, by omega, h'.s0, h'.s1, h'.n0, by have := h'.n1; omega⟩⟩
    simp [exS, evE, evL, hd, Sl.at, brw, Opd.get, isMk, Opd.put, idxOp, hd0, hd1, hd2, hd3, hd4, gtOp, hu, int_int, mp, dp, setT, bindT, ixOf, outF]
  · have n0 := h'.n0
    have n1 := h'.n1
    have s0 := h'.s0
    have s1 := h'.s1
    have k1 : sm (s' + 7919 * (n + 1)) := sm_small (by omega) (by omega)
    have k2 : sm (n + 1) := sm_small (by omega) (by omega)
    have k3 : sm 7919 := sm_small (by omega) (by omega)
    have k4 : sm 48271 := sm_small (by omega) (by omega)
    obtain ⟨a, ea⟩ : ∃ a, a = (s' + 7919 * (n + 1)) * 48271 % 2147483647 := ⟨_, rfl⟩
    have a0 : 0 ≤ a := by rw [ea]; exact Int.emod_nonneg _ (by omega)
    have a1 : a < 2147483647 := by rw [ea]; exact Int.emod_lt_of_pos _ (by omega)
    obtain ⟨b, eb⟩ : ∃ b, b = a * (a / 1009 + 69621) % 2147483647 := ⟨_, rfl⟩
    have b0 : 0 ≤ b := by rw [eb]; exact Int.emod_nonneg _ (by omega)
    have b1 : b < 2147483647 := by rw [eb]; exact Int.emod_lt_of_pos _ (by omega)
    obtain ⟨d, ed⟩ : ∃ d, d = b * (b / 2003 + 40014) % 2147483563 := ⟨_, rfl⟩
    have mp1 := mod_pos (i := (s' + 7919 * (n + 1)) * 48271) (j := 2147483647) (by omega)
    have mp2 := mod_pos (i := a * (a / 1009 + 69621)) (j := 2147483647) (by omega)
    have mp3 := mod_pos (i := b * (b / 2003 + 40014)) (j := 2147483563) (by omega)
    rw [← ea] at mp1
    rw [← eb] at mp2
    rw [← ed] at mp3
    have p1 := div_sm (i := a) (j := 1009) (by omega) (sm_small (by omega) (by omega))
    have p2 := div_sm (i := b) (j := 2003) (by omega) (sm_small (by omega) (by omega))
    have p3 := div_sm (i := d) (j := 16) (by omega) (sm_small (by omega) (by omega))
    have w1 := mul_sm k3 k2
    have w2 := mul_sm k1 k4
    have w3 := mul_sm (i := a) (j := a / 1009 + 69621) (sm_small (by omega) (by omega)) (sm_small (by omega) (by omega))
    have w4 := mul_sm (i := b) (j := b / 2003 + 40014) (sm_small (by omega) (by omega)) (sm_small (by omega) (by omega))
    have mp4 := mod_pos (i := d / 16) h0
    refine ⟨d / 16 % many, hd ms c i' u' s' (n + 1), ?_, Int.emod_nonneg _ (by omega), Int.emod_lt_of_pos _ h0, c, i', u', s', n + 1, rfl, ⟨h'.cs, h'.i0, u0, u1, s0, s1, by omega, by omega⟩⟩
    simp [exS, evE, evL, hd, Sl.at, brw, Opd.get, isMk, Opd.put, idxOp, hd0, hd1, hd2, hd3, hd4, gtOp, hu, int_int, mp1, mp2, mp3, mp4, p1, p2, p3, w1, w2, w3, w4, add_int, setT, bindT, ixOf, outF]
theorem at_mem {xs : List D} {i : Int} (h0 : 0 ≤ i) (h1 : i < xs.length) : ∃ x ∈ xs, atD xs i = some x := by
  have h : i.toNat < xs.length := by omega
  refine ⟨xs[i.toNat], List.getElem_mem h, ?_⟩
  unfold atD ixOf
  rw [if_pos h0, if_pos h1]
  exact List.getElem?_eq_getElem h
theorem sp_any {k m : Nat} {xs : List D} {sto : List (List D)} (h : Hk ms m sto) (hm : m < 2 ^ 100) (h0 : xs ≠ []) (h1 : xs.length < 2 ^ 62) :
    ∃ x sto', (cfg M (k + 2)).fns "_law_any" [.ref ms.length, .lst xs] sto = some (.ok (.val x), sto') ∧ x ∈ xs ∧ Hk ms (m + 1) sto' := by
  have hp : 0 < xs.length := List.length_pos_iff.mpr h0
  obtain ⟨v, sto', e, v0, v1, h'⟩ := sp_draw (M := M) (k := k) (many := xs.length) h hm (by omega) (by omega)
  obtain ⟨x, hx, ax⟩ := at_mem v0 v1
  refine ⟨x, sto', ?_, hx, h'⟩
  rw [fns_at H__law_any.tb__law_any, run1 rfl]
  simp [i__law_any, exS, evE, evL, Sl.at, brw, Opd.get, isMk, lenOp, e, idxOp, ax, outF]
/-- the law's own Euclid -/
theorem euclid2 {C : Cfg} {x y : Sl} {sto : List (List D)} (n : Nat) (a b : Int) (hn : b.natAbs ≤ n) (ha : 0 ≤ a) (hb : 0 ≤ b) :
    exS C (.whl (.cmp .Gt (.loc 3) (.cI 0)) b__law_frac_1) ⟨[x, y, .val (.int a), .val (.int b)], sto⟩ = okk .nx ⟨[x, y, .val (.int (Int.gcd a b)), .val (.int 0)], sto⟩ := by
  have go : ∀ (n : Nat) (a b : Int), b.natAbs ≤ n → 0 ≤ a → 0 ≤ b → ∃ m, iter (whl1 (evE C (.cmp .Gt (.loc 3) (.cI 0))) (exS C b__law_frac_1)) m ⟨[x, y, .val (.int a), .val (.int b)], sto⟩ = some (.ok .nx, ⟨[x, y, .val (.int (Int.gcd a b)), .val (.int 0)], sto⟩) := by
    intro n
    induction n with
    | zero =>
      intro a b hn ha hb
      obtain rfl : b = 0 := by omega
      have e : ((Int.gcd a 0 : Nat) : Int) = a := by rw [Int.gcd_zero]; omega
      rw [e]
      exact whl_end (by simp [evE, Sl.at, brw, Opd.get, isMk, gtOp])
    | succ n ih =>
      intro a b hn ha hb
      by_cases h0 : b = 0
      · subst h0
        have e : ((Int.gcd a 0 : Nat) : Int) = a := by rw [Int.gcd_zero]; omega
        rw [e]
        exact whl_end (by simp [evE, Sl.at, brw, Opd.get, isMk, gtOp])
      · have hp : 0 < b := by omega
        have r1 := Int.emod_nonneg a h0
        have r2 := Int.emod_lt_of_pos a hp
        have eg : Int.gcd b (a % b) = Int.gcd a b := by
          rw [Int.emod_def, Int.mul_comm, Int.gcd_sub_mul_right_right, Int.gcd_comm]
        have i := ih b (a % b) (by omega) hb r1
        rw [eg] at i
        refine whl_turn (s1 := ⟨[x, y, .val (.int a), .val (.int b)], sto⟩) (s2 := ⟨[x, y, .val (.int b), .val (.int (a % b))], sto⟩) ?_ ?_ i
        · simp [evE, Sl.at, brw, Opd.get, isMk, gtOp, hp]
        · simp [b__law_frac_1, exS, evRs, evE, evL, Sl.at, int_int, mod_pos hp, setAll, setT, bindT]
  exact whl_ex (go n a b hn ha hb)
theorem sp_frac {k : Nat} {n d : Int} {sto : List (List D)} (hd : 0 < d) (sn : sm n) (sd : sm d) : (cfg M (k + 1)).fns "_law_frac" [.int n, .int d] sto = some (.ok (.val (fr (mkRat n d.toNat))), sto) := by
  rw [fns_at H__law_frac.tb__law_frac, run1 rfl]
  have hz : d.toNat ≠ 0 := by omega
  have e : mkRat n d.toNat = Rat.normalize n d.toNat hz := (Rat.normalize_eq_mkRat hz).symm
  have gd0 : Int.gcd n d = n.natAbs.gcd d.toNat := by
    rw [Int.gcd_eq_natAbs_gcd_natAbs]
    congr 1; omega
  have gp : 0 < Int.gcd n d := by
    rw [gd0]
    exact Nat.gcd_pos_of_pos_right _ (by omega)
  have sg : sm (Int.gcd n d : Int) := by
    have : Int.gcd n d ≤ d.natAbs := Nat.le_of_dvd (by omega) (Int.gcd_dvd_natAbs_right n d)
    unfold sm at *
    omega
  have gp' : (0 : Int) < (Int.gcd n d : Int) := by omega
  have en : fr (mkRat n d.toNat) = .tup [.int (n / (Int.gcd n d : Int)), .int (d / (Int.gcd n d : Int))] := by
    unfold fr
    rw [e, Rat.normalize_eq, gd0]
    have : ((d.toNat / n.natAbs.gcd d.toNat : Nat) : Int) = d / (n.natAbs.gcd d.toNat : Int) := by
      rw [Int.natCast_ediv, Int.toNat_of_nonneg (by omega)]
    simp [this]
  rw [en]
  obtain ⟨a, ea⟩ : ∃ a, a = (if n < 0 then -n else n) := ⟨_, rfl⟩
  have a0 : 0 ≤ a := by rw [ea]; split <;> omega
  have ag : Int.gcd a d = Int.gcd n d := by
    rw [Int.gcd_eq_natAbs_gcd_natAbs, Int.gcd_eq_natAbs_gcd_natAbs]
    congr 1
    rw [ea]; split <;> omega
  have abs1 : absOp [.int n] = some (.val (.int a)) := by rw [ea]; rfl
  have w := euclid2 (C := cfg M k) (x := .val (.int n)) (y := .val (.int d)) (sto := sto) _ a d (Nat.le_refl _) a0 (by omega)
  rw [ag] at w
  have s1 : exS (cfg M k) (.par [2, 3] (.cons (.blt .abs (.cons (.loc 0) .nil)) (.cons (.loc 1) .nil))) ⟨[.val (.int n), .val (.int d), .no, .no], sto⟩ = okk .nx ⟨[.val (.int n), .val (.int d), .val (.int a), .val (.int d)], sto⟩ := by
    simp [exS, evRs, evE, evL, Sl.at, abs1, setAll, setT, bindT]
  show outF (exS (cfg M k) i__law_frac.body ⟨[.val (.int n), .val (.int d), .no, .no], sto⟩) = _
  unfold i__law_frac
  simp only []
  rw [seq_nx s1, seq_nx w]
  simp [exS, evE, evL, Sl.at, div_sm gp' sg, outF, szL]
end
end Lib

set_option Elab.async false
set_option linter.all false
set_option maxRecDepth 100000
set_option maxHeartbeats 1000000
namespace Lib
open PySem L2 Pi
section
variable {M : Md} {ms : List (List D)} [H__law_drawn M]
/-! sums over one bottom -/
theorem mk_add (a b : Int) {d : Nat} (h : d ≠ 0) : mkRat a d + mkRat b d = mkRat (a + b) d := by
  rw [Rat.mkRat_add_mkRat _ _ h h, ← Int.add_mul]
  exact Rat.mkRat_mul_right h
theorem mk_fold {d : Nat} (h : d ≠ 0) : ∀ (ls : List Int) (a : Int), (ls.map fun l => mkRat l d).foldl (· + ·) (mkRat a d) = mkRat (a + ls.sum) d
  | [], a => by simp
  | l :: ls, a => by
    show (ls.map fun l => mkRat l d).foldl (· + ·) (mkRat a d + mkRat l d) = _
    rw [mk_add a l h, mk_fold h ls (a + l), List.sum_cons, Int.add_assoc]
theorem mk_sum {d : Nat} (h : d ≠ 0) (ls : List Int) : (ls.map fun l => mkRat l d).foldl (· + ·) 0 = mkRat ls.sum d := by
  have := mk_fold h ls 0
  rw [Rat.zero_mkRat, Int.zero_add] at this
  exact this
theorem mk_nonneg {a : Int} {d : Nat} (h : 0 ≤ a) : 0 ≤ mkRat a d := by
  rw [← Rat.divInt_ofNat]
  exact Rat.divInt_nonneg h (by omega)
theorem mk_le {a b : Int} {d : Nat} (hd : d ≠ 0) (h : a ≤ b) : mkRat a d ≤ mkRat b d := by
  rw [Rat.le_iff_sub_nonneg, Rat.sub_eq_add_neg, Rat.neg_mkRat, mk_add _ _ hd]
  exact mk_nonneg (by omega)
theorem mk_one {d : Nat} (h : d ≠ 0) : mkRat d d = 1 := by
  rw [← Rat.divInt_ofNat]
  exact Rat.divInt_self' (by omega)
theorem mk_sq {a : Int} {d : Nat} (hd : d ≤ 1000) (h0 : -(2 ^ 100) < a) (h1 : a < 2 ^ 100) : sq (mkRat a d) := by
  have e : (1000 : Nat) < 2 ^ 3900 := by
    have : 2 ^ 10 ≤ 2 ^ 3900 := two_pow_le (by decide)
    omega
  have e2 : (2 : Nat) ^ 100 ≤ 2 ^ 3900 := two_pow_le (by decide)
  by_cases h : d = 0
  · subst h
    rw [Rat.mkRat_zero]
    exact ⟨by show 0 < _; omega, by show 1 < _; omega⟩
  · refine ⟨?_, ?_⟩
    · rw [Rat.num_mkRat, if_neg h]
      have : (a / (d.gcd a.natAbs : Int)).natAbs ≤ a.natAbs := Int.natAbs_ediv_le_natAbs _ _
      omega
    · rw [Rat.den_mkRat, if_neg h]
      have : d / d.gcd a.natAbs ≤ d := Nat.div_le_self _ _
      omega
theorem mk_part {a : Int} {d : Nat} (h : d ≠ 0) (hd : d ≤ 1000) (h0 : 0 ≤ a) (h1 : a ≤ d) : partOk (mkRat a d) := by
  have le1 : mkRat a d ≤ 1 := by rw [← mk_one h]; exact mk_le h h1
  refine ⟨Rat.num_nonneg.mpr (mk_nonneg h0), ?_, ?_⟩
  · rw [Rat.le_iff] at le1
    simpa using le1
  · rw [Rat.den_mkRat, if_neg h]
    exact Nat.le_trans (Nat.div_le_self _ _) hd
theorem mk_sums {d : Nat} (h : d ≠ 0) (hd : d ≤ 1000) {ls : List Int} (hl : ls.length ≤ 8) (hb : ∀ l ∈ ls, 0 ≤ l ∧ l ≤ d) : sums (ls.map fun l => mkRat l d) := by
  intro p s e
  obtain ⟨p', s', rfl, rfl, rfl⟩ := List.map_eq_append_iff.mp e.symm
  unfold rsum
  rw [mk_sum h]
  have bnd : ∀ q : List Int, (∀ l ∈ q, 0 ≤ l ∧ l ≤ d) → 0 ≤ q.sum ∧ q.sum ≤ q.length * d := by
    intro q
    induction q with
    | nil => exact fun _ => ⟨Int.le_refl _, by simp⟩
    | cons a q ih =>
      intro hq
      obtain ⟨i1, i2⟩ := ih fun l hl => hq l (List.mem_cons_of_mem _ hl)
      obtain ⟨j1, j2⟩ := hq a List.mem_cons_self
      rw [List.sum_cons, List.length_cons, Int.natCast_add, Int.add_mul]
      constructor <;> omega
  obtain ⟨b1, b2⟩ := bnd p' fun l hl => hb l (List.mem_append_left _ hl)
  have lp : p'.length ≤ 8 := by simp at hl; omega
  have b3 : (p'.length : Int) * d ≤ 8 * 1000 := Int.mul_le_mul (by omega) (by omega) (by omega) (by omega)
  exact mk_sq hd (by omega) (by omega)
/-! the law's recipes: the row of parts -/
def binsOk (bins : List Int) : Prop := bins ≠ [] ∧ bins.length ≤ 8 ∧ ∀ b ∈ bins, 0 ≤ b ∧ b ≤ 7
def botsOk (bots : List Int) : Prop := bots ≠ [] ∧ bots.length ≤ 100 ∧ ∀ b ∈ bots, 1 ≤ b ∧ b ≤ 1000
/-- what a draw of a recipe promises -/
def LR (M : Md) (ms : List (List D)) (L cost : Nat) (dp : Nat) (bots : List Int) : Prop := ∀ (bins : List Int) (m : Nat) (sto : List (List D)), binsOk bins → Hk ms m sto → m + cost < 2 ^ 100 →
  ∃ r sto', (cfg M L).fns "_law_recipe" [.ref ms.length, .int dp, .lst (bins.map .int), .lst (bots.map .int)] sto = some (.ok (.val (Rc.d r)), sto') ∧ r.ok ∧ r.bins.Sublist bins ∧ r.dep ≤ dp ∧ Hk ms (m + cost) sto'
theorem mem_int {x : D} {l : List Int} {P : Int → Prop} (h : ∀ i ∈ l, P i) (hx : x ∈ l.map D.int) : ∃ i, x = .int i ∧ P i := by
  obtain ⟨i, hi, rfl⟩ := List.mem_map.mp hx
  exact ⟨i, rfl, h i hi⟩
def rowB : S := (.seq (.set (.nm 15) (.call "_law_any" (.cons (.loc 0) (.cons (.lst (.cons (.cI 0) (.cons (.cI 0) (.cons (.loc 12) (.cons (.call "_law_draw" (.cons (.loc 0) (.cons (.bin .Add (.loc 12) (.cI 1)) .nil))) (.cons (.call "_law_draw" (.cons (.loc 0) (.cons (.bin .Add (.loc 12) (.cI 1)) .nil))) .nil)))))) .nil))))
  (.seq (.set (.nm 16) (.bin .Add (.loc 12) (.call "_law_draw" (.cons (.loc 0) (.cons (.bin .Add (.bin .Sub (.loc 8) (.loc 12)) (.cI 1)) .nil)))))
  (.seq (.set (.nm 16) (.call "_law_any" (.cons (.loc 0) (.cons (.lst (.cons (.loc 8) (.cons (.loc 8) (.cons (.loc 12) (.cons (.loc 16) (.cons (.loc 16) .nil)))))) .nil))))
  (.seq (.set (.nm 17) (.call "_law_recipe" (.cons (.loc 0) (.cons (.bin .Sub (.loc 1) (.cI 1)) (.cons (.loc 13) (.cons (.loc 3) .nil))))))
  (.seq (.exp (.mth .append (.loc 11) (.cons (.tup (.cons (.call "_law_frac" (.cons (.loc 15) (.cons (.loc 8) .nil))) (.cons (.call "_law_frac" (.cons (.loc 16) (.cons (.loc 8) .nil))) (.cons (.loc 17) .nil)))) .nil)))
  .skip)))))
theorem row_step {k cost m dp : Nat} {bots : List Int} {B : List D} {e4 e5 e6 e7 e9 e10 e14 e15 e16 e17 : Sl} {bot s : Int} {lot : List Int} {done : List D} {sto : List (List D)} (ih : LR M ms (k + 2) cost dp bots) (b1 : 1 ≤ bot) (b2 : bot ≤ 1000) (s0 : 0 ≤ s) (s1 : s ≤ bot) (hl : binsOk lot) (h : Hk ms m sto) (hm : m + 5 + cost < 2 ^ 100) (hd : done.length ≤ 100) :
    ∃ (l g : Int) (r : Rc) (sto' : List (List D)), 0 ≤ l ∧ l ≤ s ∧ s ≤ g ∧ g ≤ bot ∧ r.ok ∧ r.bins.Sublist lot ∧ r.dep ≤ dp ∧ Hk ms (m + 5 + cost) sto' ∧
      exS (cfg M (k + 2)) rowB ⟨[.val (.ref ms.length), .val (.int (dp + 1)), .val (.lst B), .val (.lst (bots.map .int)), e4, e5, e6, e7, .val (.int bot), e9, e10, .own done, .val (.int s), .val (.lst (lot.map .int)), e14, e15, e16, e17, .no, .no], sto⟩ =
        okk .nx ⟨[.val (.ref ms.length), .val (.int (dp + 1)), .val (.lst B), .val (.lst (bots.map .int)), e4, e5, e6, e7, .val (.int bot), e9, e10, .own (done ++ [.tup [fr (mkRat l bot.toNat), fr (mkRat g bot.toNat), r.d]]), .val (.int s), .val (.lst (lot.map .int)), e14, .val (.int l), .val (.int g), .val r.d, .no, .no], sto'⟩ := by
  have sz5 : (5 : Nat) ≤ szL := by decide
  obtain ⟨v1, t1, d1, v10, v11, h1⟩ := sp_draw (M := M) (k := k + 1) (many := s + 1) h (by omega) (by omega) (by omega)
  obtain ⟨v2, t2, d2, v20, v21, h2⟩ := sp_draw (M := M) (k := k + 1) (many := s + 1) h1 (by omega) (by omega) (by omega)
  obtain ⟨x, t3, a1, x1, h3⟩ := sp_any (M := M) (k := k) (xs := [0, 0, s, v1, v2].map D.int) h2 (by omega) (by simp) (by simp)
  obtain ⟨l, rfl, l0, l1⟩ := mem_int (P := fun i => 0 ≤ i ∧ i ≤ s) (by
    intro i hi
    simp at hi
    omega) x1
  obtain ⟨v3, t4, d3, v30, v31, h4⟩ := sp_draw (M := M) (k := k + 1) (many := bot - s + 1) h3 (by omega) (by omega) (by omega)
  obtain ⟨y, t5, a2, y1, h5⟩ := sp_any (M := M) (k := k) (xs := [bot, bot, s, s + v3, s + v3].map D.int) h4 (by omega) (by simp) (by simp)
  obtain ⟨g, rfl, g0, g1⟩ := mem_int (P := fun i => s ≤ i ∧ i ≤ bot) (by
    intro i hi
    simp at hi
    omega) y1
  obtain ⟨r, t6, e6', rok, rb, rd, h6⟩ := ih lot (m + 1 + 1 + 1 + 1 + 1) t5 hl h5 (by omega)
  have hdp : ((dp : Int) + 1 - 1) = dp := by omega
  have smb : sm bot := sm_small (by omega) (by omega)
  have f1 := sp_frac (M := M) (k := k + 1) (n := l) (d := bot) (sto := t6) (by omega) (sm_small (by omega) (by omega)) smb
  have f2 := sp_frac (M := M) (k := k + 1) (n := g) (d := bot) (sto := t6) (by omega) (sm_small (by omega) (by omega)) smb
  have hd2 : done.length < szL := Nat.lt_of_le_of_lt hd (by decide)
  have sz3 : (3 : Nat) ≤ szL := by decide
  simp at a1 a2
  refine ⟨l, g, r, t6, l0, l1, g0, g1, rok, rb, rd, h6.le (by omega), ?_⟩
  unfold rowB
  have st1 : exS (cfg M (k + 2)) (.set (.nm 15) (.call "_law_any" (.cons (.loc 0) (.cons (.lst (.cons (.cI 0) (.cons (.cI 0) (.cons (.loc 12) (.cons (.call "_law_draw" (.cons (.loc 0) (.cons (.bin .Add (.loc 12) (.cI 1)) .nil))) (.cons (.call "_law_draw" (.cons (.loc 0) (.cons (.bin .Add (.loc 12) (.cI 1)) .nil))) .nil)))))) .nil)))) ⟨[.val (.ref ms.length), .val (.int (dp + 1)), .val (.lst B), .val (.lst (bots.map .int)), e4, e5, e6, e7, .val (.int bot), e9, e10, .own done, .val (.int s), .val (.lst (lot.map .int)), e14, e15, e16, e17, .no, .no], sto⟩ =
      okk .nx ⟨[.val (.ref ms.length), .val (.int (dp + 1)), .val (.lst B), .val (.lst (bots.map .int)), e4, e5, e6, e7, .val (.int bot), e9, e10, .own done, .val (.int s), .val (.lst (lot.map .int)), e14, .val (.int l), e16, e17, .no, .no], t3⟩ := by
    simp [exS, evE, evL, Sl.at, add_int, d1, d2, a1, sz5, setT, bindT]
  have st2 : exS (cfg M (k + 2)) (.set (.nm 16) (.bin .Add (.loc 12) (.call "_law_draw" (.cons (.loc 0) (.cons (.bin .Add (.bin .Sub (.loc 8) (.loc 12)) (.cI 1)) .nil))))) ⟨[.val (.ref ms.length), .val (.int (dp + 1)), .val (.lst B), .val (.lst (bots.map .int)), e4, e5, e6, e7, .val (.int bot), e9, e10, .own done, .val (.int s), .val (.lst (lot.map .int)), e14, .val (.int l), e16, e17, .no, .no], t3⟩ =
      okk .nx ⟨[.val (.ref ms.length), .val (.int (dp + 1)), .val (.lst B), .val (.lst (bots.map .int)), e4, e5, e6, e7, .val (.int bot), e9, e10, .own done, .val (.int s), .val (.lst (lot.map .int)), e14, .val (.int l), .val (.int (s + v3)), e17, .no, .no], t4⟩ := by
    simp [exS, evE, evL, Sl.at, add_int, sub_int, d3, setT, bindT]
  have st3 : exS (cfg M (k + 2)) (.set (.nm 16) (.call "_law_any" (.cons (.loc 0) (.cons (.lst (.cons (.loc 8) (.cons (.loc 8) (.cons (.loc 12) (.cons (.loc 16) (.cons (.loc 16) .nil)))))) .nil)))) ⟨[.val (.ref ms.length), .val (.int (dp + 1)), .val (.lst B), .val (.lst (bots.map .int)), e4, e5, e6, e7, .val (.int bot), e9, e10, .own done, .val (.int s), .val (.lst (lot.map .int)), e14, .val (.int l), .val (.int (s + v3)), e17, .no, .no], t4⟩ =
      okk .nx ⟨[.val (.ref ms.length), .val (.int (dp + 1)), .val (.lst B), .val (.lst (bots.map .int)), e4, e5, e6, e7, .val (.int bot), e9, e10, .own done, .val (.int s), .val (.lst (lot.map .int)), e14, .val (.int l), .val (.int g), e17, .no, .no], t5⟩ := by
    simp [exS, evE, evL, Sl.at, a2, sz5, setT, bindT]
  have st4 : exS (cfg M (k + 2)) (.set (.nm 17) (.call "_law_recipe" (.cons (.loc 0) (.cons (.bin .Sub (.loc 1) (.cI 1)) (.cons (.loc 13) (.cons (.loc 3) .nil)))))) ⟨[.val (.ref ms.length), .val (.int (dp + 1)), .val (.lst B), .val (.lst (bots.map .int)), e4, e5, e6, e7, .val (.int bot), e9, e10, .own done, .val (.int s), .val (.lst (lot.map .int)), e14, .val (.int l), .val (.int g), e17, .no, .no], t5⟩ =
      okk .nx ⟨[.val (.ref ms.length), .val (.int (dp + 1)), .val (.lst B), .val (.lst (bots.map .int)), e4, e5, e6, e7, .val (.int bot), e9, e10, .own done, .val (.int s), .val (.lst (lot.map .int)), e14, .val (.int l), .val (.int g), .val r.d, .no, .no], t6⟩ := by
    simp [exS, evE, evL, Sl.at, sub_int, hdp, e6', setT, bindT]
  rw [seq_nx st1, seq_nx st2, seq_nx st3, seq_nx st4]
  simp [exS, evE, evL, Sl.at, brw, Opd.get, Opd.put, lstOf, f1, f2, sz3, appOp, hd2]
/-- what a drawn row is -/
structure RowOk (row : Rc) (bot : Int) (sh : List Int) (lots : List (List Int)) (dp : Nat) (ls gs : List Int) : Prop where
  rr : row.row
  nb : ∀ b, row ≠ .bin b
  los : row.los = ls.map fun l => mkRat l bot.toNat
  his : row.his = gs.map fun l => mkRat l bot.toNat
  len : ls.length = sh.length
  leng : gs.length = sh.length
  lb : ∀ l ∈ ls, 0 ≤ l ∧ l ≤ bot
  gb : ∀ l ∈ gs, 0 ≤ l ∧ l ≤ bot
  lsum : ls.sum ≤ sh.sum
  gsum : sh.sum ≤ gs.sum
  bins : row.bins.Sublist lots.flatten
  dep : row.dep ≤ dp + 1
theorem row_loop {k cost dp : Nat} {bots : List Int} {B : List D} {e4 e5 e6 e7 e9 e10 e14 : Sl} {bot : Int} (ih : LR M ms (k + 2) cost dp bots) (b1 : 1 ≤ bot) (b2 : bot ≤ 1000) :
    ∀ (sh : List Int) (lots : List (List Int)) (done : List D) (m : Nat) (sto : List (List D)) (e12 e13 e15 e16 e17 : Sl), sh.length = lots.length → (∀ s ∈ sh, 0 ≤ s ∧ s ≤ bot) → (∀ l ∈ lots, binsOk l) → Hk ms m sto → m + sh.length * (5 + cost) < 2 ^ 100 → done.length + sh.length ≤ 100 →
    ∃ (row : Rc) (ls gs : List Int) (sto' : List (List D)) (e12' e13' e15' e16' e17' : Sl), RowOk row bot sh lots dp ls gs ∧ Hk ms (m + sh.length * (5 + cost)) sto' ∧
      forGo (.cons (.nm 12) (.cons (.nm 13) .nil)) (exS (cfg M (k + 2)) rowB) (((sh.map D.int).zip (lots.map fun l => D.lst (l.map .int))).map fun p => .tup [p.1, p.2]) ⟨[.val (.ref ms.length), .val (.int (dp + 1)), .val (.lst B), .val (.lst (bots.map .int)), e4, e5, e6, e7, .val (.int bot), e9, e10, .own done, e12, e13, e14, e15, e16, e17, .no, .no], sto⟩ =
        okk .nx ⟨[.val (.ref ms.length), .val (.int (dp + 1)), .val (.lst B), .val (.lst (bots.map .int)), e4, e5, e6, e7, .val (.int bot), e9, e10, .own (done ++ row.ps), e12', e13', e14, e15', e16', e17', .no, .no], sto'⟩ := by
  intro sh
  induction sh with
  | nil =>
    intro lots done m sto e12 e13 e15 e16 e17 hl _ _ hk _ _
    cases lots with
    | nil => exact ⟨.nil, [], [], sto, e12, e13, e15, e16, e17, ⟨trivial, (fun b e => by cases e), rfl, rfl, rfl, rfl, (fun _ h => by cases h), (fun _ h => by cases h), Int.le_refl _, Int.le_refl _, List.Sublist.refl _, Nat.zero_le _⟩, hk.le (Nat.le_add_right _ _), by simp [forGo, Rc.ps, Rc.ds]⟩
    | cons => simp at hl
  | cons s sh ihs =>
    intro lots done m sto e12 e13 e15 e16 e17 hl hs hlots hk hm hd
    cases lots with
    | nil => simp at hl
    | cons lot lots =>
      rw [List.length_cons] at hm hd
      have em : (sh.length + 1) * (5 + cost) = sh.length * (5 + cost) + (5 + cost) := Nat.succ_mul _ _
      obtain ⟨s0, s1⟩ := hs s List.mem_cons_self
      obtain ⟨l, g, r, sto1, l0, l1, g0, g1, rok, rb, rd, hk1, st⟩ := row_step (M := M) (k := k) (cost := cost) (m := m) (dp := dp) (bots := bots) (B := B) (e4 := e4) (e5 := e5) (e6 := e6) (e7 := e7) (e9 := e9) (e10 := e10) (e14 := e14) (e15 := e15) (e16 := e16) (e17 := e17) ih b1 b2 s0 s1 (hlots lot List.mem_cons_self) hk (by omega) (show done.length ≤ 100 by omega)
      obtain ⟨row, ls, gs, sto2, e12', e13', e15', e16', e17', ro, hk2, fg⟩ := ihs lots (done ++ [.tup [fr (mkRat l bot.toNat), fr (mkRat g bot.toNat), r.d]]) (m + 5 + cost) sto1 (.val (.int s)) (.val (.lst (lot.map .int))) (.val (.int l)) (.val (.int g)) (.val r.d) (by simpa using hl) (fun x hx => hs x (List.mem_cons_of_mem _ hx)) (fun x hx => hlots x (List.mem_cons_of_mem _ hx)) hk1 (by omega) (by simp; omega)
      have hz : bot.toNat ≠ 0 := by omega
      have et : ((bot.toNat : Nat) : Int) = bot := by omega
      refine ⟨.cons (mkRat l bot.toNat) (mkRat g bot.toNat) r row, l :: ls, g :: gs, sto2, e12', e13', e15', e16', e17', ⟨⟨mk_part hz (by omega) l0 (by omega), mk_part hz (by omega) (by omega) (by omega), mk_le hz (by omega), rok, ro.rr⟩, (fun b e => by cases e), ?_, ?_, by simp [ro.len], by simp [ro.leng], ?_, ?_, ?_, ?_, ?_, ?_⟩, hk2.le (by rw [List.length_cons]; omega), ?_⟩
      · show _ :: row.los = _
        rw [ro.los]; rfl
      · show _ :: row.his = _
        rw [ro.his]; rfl
      · intro x hx
        rcases List.mem_cons.mp hx with rfl | hx
        · omega
        · exact ro.lb x hx
      · intro x hx
        rcases List.mem_cons.mp hx with rfl | hx
        · omega
        · exact ro.gb x hx
      · have := ro.lsum
        rw [List.sum_cons, List.sum_cons]; omega
      · have := ro.gsum
        rw [List.sum_cons, List.sum_cons]; omega
      · show (r.bins ++ row.bins).Sublist (lot :: lots).flatten
        rw [List.flatten_cons]
        exact List.Sublist.append rb ro.bins
      · have := ro.dep
        show max (r.dep + 1) row.dep ≤ _
        omega
      · have hb : bindT (.cons (.nm 12) (.cons (.nm 13) .nil)) (.tup [.int s, .lst (lot.map .int)]) [.val (.ref ms.length), .val (.int (dp + 1)), .val (.lst B), .val (.lst (bots.map .int)), e4, e5, e6, e7, .val (.int bot), e9, e10, .own done, e12, e13, e14, e15, e16, e17, .no, .no] =
            some [.val (.ref ms.length), .val (.int (dp + 1)), .val (.lst B), .val (.lst (bots.map .int)), e4, e5, e6, e7, .val (.int bot), e9, e10, .own done, .val (.int s), .val (.lst (lot.map .int)), e14, e15, e16, e17, .no, .no] := rfl
        show forGo _ _ (.tup [.int s, .lst (lot.map .int)] :: _) _ = _
        rw [forGo_cons, hb]
        simp only [st, okk]
        rw [ps_cons]
        have e : done ++ .tup [fr (mkRat l bot.toNat), fr (mkRat g bot.toNat), r.d] :: row.ps = done ++ [.tup [fr (mkRat l bot.toNat), fr (mkRat g bot.toNat), r.d]] ++ row.ps := by simp
        rw [e]
        exact fg
/-- a row over shares that fill the bottom is a right recipe -/
theorem RowOk.ok {row : Rc} {bot : Int} {sh : List Int} {lots : List (List Int)} {dp : Nat} {ls gs : List Int} (h : RowOk row bot sh lots dp ls gs) (b1 : 1 ≤ bot) (b2 : bot ≤ 1000) (h1 : sh ≠ []) (h2 : sh.length ≤ 8) (h3 : sh.sum = bot) : row.ok ∧ row.isMix := by
  have hz : bot.toNat ≠ 0 := by omega
  have et : ((bot.toNat : Nat) : Int) = bot := by omega
  have mix : row.isMix := by
    cases row with
    | bin b => exact absurd rfl (h.nb b)
    | nil =>
      have := h.los
      have l := h.len
      have : ls = [] := by
        cases ls with
        | nil => rfl
        | cons => simp [Rc.los] at this
      subst this
      exact absurd (List.length_eq_zero_iff.mp l.symm) h1
    | cons => trivial
  refine ⟨.inr ⟨h.rr, mix, ?_, ?_, ?_, ?_, ?_⟩, mix⟩
  · rw [h.los, List.length_map, h.len]; exact h2
  · rw [h.los]
    exact mk_sums hz (by omega) (by rw [h.len]; exact h2) fun l hl => by rw [et]; exact h.lb l hl
  · rw [h.his]
    exact mk_sums hz (by omega) (by rw [h.leng]; exact h2) fun l hl => by rw [et]; exact h.gb l hl
  · rw [h.los, mk_sum hz, ← mk_one hz]
    exact mk_le hz (by have := h.lsum; omega)
  · rw [h.his, mk_sum hz, ← mk_one hz]
    exact mk_le hz (by have := h.gsum; omega)
end
end Lib

set_option Elab.async false
set_option linter.all false
set_option maxRecDepth 100000
set_option maxHeartbeats 1000000
namespace Lib
open PySem L2 Pi
section
variable {M : Md} {ms : List (List D)} [H__law_drawn M]
/-! the law's recipes: lots, cuts, shares -/
theorem cut_take {α : Type} {xs : List α} {v : Int} (h0 : 0 ≤ v) (h1 : v ≤ xs.length) : cut xs none (some v) = xs.take v.toNat := by
  show (xs.drop 0).take ((if v < 0 then (v + (xs.length : Nat)).toNat else min v.toNat xs.length) - 0) = _
  rw [if_neg (by omega)]
  rw [List.drop_zero, Nat.sub_zero, Nat.min_eq_left (by omega)]
theorem cut_drop {α : Type} {xs : List α} {v : Int} (h0 : 0 ≤ v) (h1 : v ≤ xs.length) : cut xs (some v) none = xs.drop v.toNat := by
  show (xs.drop (if v < 0 then (v + (xs.length : Nat)).toNat else min v.toNat xs.length)).take (xs.length - (if v < 0 then (v + (xs.length : Nat)).toNat else min v.toNat xs.length)) = _
  rw [if_neg (by omega), Nat.min_eq_left (by omega)]
  rw [← List.length_drop, List.take_length]
def lotB : S := (.seq (.set (.nm 14) (.ite (.cmp .Eq (.bin .Add (.loc 7) (.cI 1)) (.loc 4)) (.len (.loc 5)) (.bin .Add (.cI 1) (.call "_law_draw" (.cons (.loc 0) (.cons (.bin .Sub (.len (.loc 5)) (.bin .Sub (.bin .Sub (.loc 4) (.loc 7)) (.cI 1))) .nil))))))
  (.seq (.par [6, 5] (.cons (.bin .Add (.loc 6) (.lst (.cons (.slc (.loc 5) .no (.yes (.loc 14))) .nil))) (.cons (.slc (.loc 5) (.yes (.loc 14)) .no) .nil)))
  .skip))
def lotsD (lots : List (List Int)) : List D := lots.map fun l => .lst (l.map .int)
theorem lots_loop {k : Nat} {dp : D} {B bo : D} {many : Nat} (hmany : many ≤ 8) : ∀ (r a : Nat) (lots : List (List Int)) (left : List Int) (m : Nat) (sto : List (List D)) (e7 e14 : Sl), a + r = many → lots.length + r ≤ 100 → r ≤ left.length → (r = 0 → left = []) → left.length ≤ 8 → (∀ l ∈ lots, l ≠ []) → (∀ xs, e7 ≠ .own xs) → Hk ms m sto → m + r < 2 ^ 100 →
    ∃ lots' sto' e7' e14', (∀ xs, e7' ≠ .own xs) ∧ lots'.flatten = lots.flatten ++ left ∧ lots'.length = lots.length + r ∧ (∀ l ∈ lots', l ≠ []) ∧ Hk ms (m + r) sto' ∧
      forGo (.nm 7) (exS (cfg M (k + 1)) lotB) ((List.range' a r).map fun (i : Nat) => D.int i) ⟨[.val (.ref ms.length), .val dp, .val B, .val bo, .val (.int many), .own (left.map .int), .own (lotsD lots), e7, .no, .no, .no, .no, .no, .no, e14, .no, .no, .no, .no, .no], sto⟩ =
        okk .nx ⟨[.val (.ref ms.length), .val dp, .val B, .val bo, .val (.int many), .own [], .own (lotsD lots'), e7', .no, .no, .no, .no, .no, .no, e14', .no, .no, .no, .no, .no], sto'⟩ := by
  intro r
  induction r with
  | zero =>
    intro a lots left m sto e7 e14 _ _ _ h0 _ hn h7 hk _
    rw [h0 rfl]
    exact ⟨lots, sto, e7, e14, h7, by simp, rfl, hn, hk, rfl⟩
  | succ r ih =>
    intro a lots left m sto e7 e14 ha hlen hle _ h8 hn h7 hk hm
    -- how wide
    have key : ∃ (w : Int) (sto1 : List (List D)), 1 ≤ w ∧ w ≤ left.length ∧ (r : Int) ≤ left.length - w ∧ (r = 0 → w = left.length) ∧ Hk ms (m + 1) sto1 ∧
        exS (cfg M (k + 1)) (.set (.nm 14) (.ite (.cmp .Eq (.bin .Add (.loc 7) (.cI 1)) (.loc 4)) (.len (.loc 5)) (.bin .Add (.cI 1) (.call "_law_draw" (.cons (.loc 0) (.cons (.bin .Sub (.len (.loc 5)) (.bin .Sub (.bin .Sub (.loc 4) (.loc 7)) (.cI 1))) .nil)))))) ⟨[.val (.ref ms.length), .val dp, .val B, .val bo, .val (.int many), .own (left.map .int), .own (lotsD lots), .val (.int a), .no, .no, .no, .no, .no, .no, e14, .no, .no, .no, .no, .no], sto⟩ =
          okk .nx ⟨[.val (.ref ms.length), .val dp, .val B, .val bo, .val (.int many), .own (left.map .int), .own (lotsD lots), .val (.int a), .no, .no, .no, .no, .no, .no, .val (.int w), .no, .no, .no, .no, .no], sto1⟩ := by
      by_cases hr : r = 0
      · subst hr
        have e : (a : Int) + 1 = many := by omega
        refine ⟨left.length, sto, by omega, Int.le_refl _, by omega, fun _ => rfl, hk.le (by omega), ?_⟩
        simp [exS, evE, evL, Sl.at, brw, Opd.get, add_int, eq_int, e, lenOp, setT, bindT]
      · have e : ¬ (a : Int) + 1 = many := by omega
        obtain ⟨v, sto1, d, v0, v1, hk1⟩ := sp_draw (M := M) (k := k) (many := left.length - (many - a - 1)) hk (by omega) (by omega) (by omega)
        refine ⟨1 + v, sto1, by omega, by omega, by omega, fun z => absurd z hr, hk1, ?_⟩
        simp [exS, evE, evL, Sl.at, brw, Opd.get, add_int, sub_int, eq_int, e, lenOp, d, setT, bindT]
    obtain ⟨w, sto1, w1, w2, w3, w4, hk1, st1⟩ := key
    obtain ⟨tk, etk⟩ : ∃ tk, tk = left.take w.toNat := ⟨_, rfl⟩
    obtain ⟨dr, edr⟩ : ∃ dr, dr = left.drop w.toNat := ⟨_, rfl⟩
    have etd : tk ++ dr = left := by rw [etk, edr]; exact List.take_append_drop _ _
    have ltk : tk.length = w.toNat := by rw [etk, List.length_take]; omega
    have ldr : dr.length + w.toNat = left.length := by rw [edr, List.length_drop]; omega
    have c1 : cut (left.map D.int) none (some w) = tk.map .int := by rw [cut_take (by omega) (by rw [List.length_map]; exact w2), etk, List.map_take]
    have c2 : cut (left.map D.int) (some w) none = dr.map .int := by rw [cut_drop (by omega) (by rw [List.length_map]; exact w2), edr, List.map_drop]
    have big : (1000 : Nat) ≤ szL := by decide
    have cat : addOp (.lst (lotsD lots)) (.lst [.lst ((tk).map .int)]) = some (.new (lotsD (lots ++ [tk]))) := by
      show gd (_ ≤ szL) _ = _
      rw [show ∀ m : Option Rv, gd ((lotsD lots).length + [D.lst ((tk).map .int)].length ≤ szL) m = m from fun m => if_pos (by
        show (lotsD lots).length + 1 ≤ szL
        unfold lotsD
        rw [List.length_map]; omega)]
      unfold lotsD
      rw [List.map_append]; rfl
    have st2 : exS (cfg M (k + 1)) (.par [6, 5] (.cons (.bin .Add (.loc 6) (.lst (.cons (.slc (.loc 5) .no (.yes (.loc 14))) .nil))) (.cons (.slc (.loc 5) (.yes (.loc 14)) .no) .nil))) ⟨[.val (.ref ms.length), .val dp, .val B, .val bo, .val (.int many), .own (left.map .int), .own (lotsD lots), .val (.int a), .no, .no, .no, .no, .no, .no, .val (.int w), .no, .no, .no, .no, .no], sto1⟩ =
        okk .nx ⟨[.val (.ref ms.length), .val dp, .val B, .val bo, .val (.int many), .own ((dr).map .int), .own (lotsD (lots ++ [tk])), .val (.int a), .no, .no, .no, .no, .no, .no, .val (.int w), .no, .no, .no, .no, .no], sto1⟩ := by
      have one1 : (1 : Nat) ≤ szL := by decide
      simp [exS, evRs, evE, evL, evO, Sl.at, brw, Opd.get, slcOp, c1, c2, cat, one1, setAll, setT]
    have ne1 : tk ≠ [] := by
      intro z
      rw [z] at ltk
      simp at ltk
      omega
    obtain ⟨lots', sto', e7', e14', q7, q1, q2, q3, q4, q5⟩ := ih (a + 1) (lots ++ [tk]) (dr) (m + 1) sto1 (.val (.int a)) (.val (.int w)) (by omega) (by simp; omega) (by omega) (fun z => by
      have := w4 z
      apply List.eq_nil_of_length_eq_zero
      omega) (by omega) (fun l hl => by
        rcases List.mem_append.mp hl with hl | hl
        · exact hn l hl
        · rw [List.mem_singleton.mp hl]; exact ne1) (fun _ z => nomatch z) hk1 (by omega)
    refine ⟨lots', sto', e7', e14', q7, ?_, by rw [q2]; simp; omega, q3, q4.le (by omega), ?_⟩
    · rw [q1]
      rw [← etd]
      simp
    · have hb : bindT (.nm 7) (.int a) [.val (.ref ms.length), .val dp, .val B, .val bo, .val (.int many), .own (left.map .int), .own (lotsD lots), e7, .no, .no, .no, .no, .no, .no, e14, .no, .no, .no, .no, .no] =
          some [.val (.ref ms.length), .val dp, .val B, .val bo, .val (.int many), .own (left.map .int), .own (lotsD lots), .val (.int a), .no, .no, .no, .no, .no, .no, e14, .no, .no, .no, .no, .no] := rfl
      have body : exS (cfg M (k + 1)) lotB ⟨[.val (.ref ms.length), .val dp, .val B, .val bo, .val (.int many), .own (left.map .int), .own (lotsD lots), .val (.int a), .no, .no, .no, .no, .no, .no, e14, .no, .no, .no, .no, .no], sto⟩ =
          okk .nx ⟨[.val (.ref ms.length), .val dp, .val B, .val bo, .val (.int many), .own ((dr).map .int), .own (lotsD (lots ++ [tk])), .val (.int a), .no, .no, .no, .no, .no, .no, .val (.int w), .no, .no, .no, .no, .no], sto1⟩ := by
        unfold lotB
        rw [seq_nx st1, seq_nx st2]; rfl
      rw [List.range'_succ, List.map_cons, forGo_cons, hb]
      simp only [body, okk]
      exact q5
/-- the gaps between cuts -/
def diffs : Int → List Int → Int → List Int
  | a, [], z => [z - a]
  | a, c :: r, z => (c - a) :: diffs c r z
theorem diffs_ok : ∀ (l : List Int) (a z : Int), (a :: l).Pairwise (· ≤ ·) → (∀ c ∈ a :: l, c ≤ z) → (diffs a l z).sum = z - a ∧ (∀ s ∈ diffs a l z, 0 ≤ s ∧ s ≤ z - a) ∧ (diffs a l z).length = l.length + 1
  | [], a, z, _, h => by
    refine ⟨by simp [diffs], fun s hs => ?_, rfl⟩
    have := h a List.mem_cons_self
    have : s = z - a := by simpa [diffs] using hs
    omega
  | c :: r, a, z, hp, h => by
    have hp' := List.pairwise_cons.mp hp
    obtain ⟨i1, i2, i3⟩ := diffs_ok r c z hp'.2 fun x hx => h x (List.mem_cons_of_mem _ hx)
    have ac := hp'.1 c List.mem_cons_self
    have cz := h c (List.mem_cons_of_mem _ List.mem_cons_self)
    refine ⟨?_, fun s hs => ?_, by show ((c - a) :: diffs c r z).length = _; rw [List.length_cons, i3]; rfl⟩
    · show ((c - a) :: diffs c r z).sum = _
      rw [List.sum_cons, i1]; omega
    · rcases List.mem_cons.mp (show s ∈ (c - a) :: diffs c r z from hs) with rfl | hs
      · omega
      · have := i2 s hs
        omega
theorem diffs_zip : ∀ (l : List Int) (a z : Int), All2 (fun x y => ∃ p q : Int, x = D.tup [.int p, .int q] ∧ y = D.int (q - p)) (((((a :: l).map D.int)).zip ((l ++ [z]).map D.int)).map fun p => .tup [p.1, p.2]) ((diffs a l z).map D.int)
  | [], a, z => .cons ⟨a, z, rfl, rfl⟩ .nil
  | c :: r, a, z => .cons ⟨a, c, rfl, rfl⟩ (diffs_zip r c z)
/-! the law's recipes, whole -/
def costR : Nat → Nat
  | 0 => 1
  | d + 1 => 60 + 5 * costR d
theorem min_int (i j : Int) : minOp [.int i, .int j] = some (.val (.int (if j < i then j else i))) := rfl
theorem list_ints (l : List Int) : listOp [.lst (l.map .int)] = some (.new (l.map .int)) := rfl
theorem lr_first {k m d : Nat} {bins bots : List Int} {sto : List (List D)} (bn : bins ≠ []) (hk : Hk ms m sto) (hm : m + 10 < 2 ^ 100) : (∃ sto1, Hk ms (m + 1) sto1 ∧ bins.length = 1 ∧ exS (cfg M (k + 2)) (.ite (.tor (.cmp .Eq (.loc 1) (.cI 0)) (.tand (.cmp .Eq (.len (.loc 2)) (.cI 1)) (.cmp .Gt (.call "_law_draw" (.cons (.loc 0) (.cons (.cI 3) .nil))) (.cI 0)))) (.seq (.ret (.idx (.loc 2) (.cI 0))) .skip) .skip) ⟨[.val (.ref ms.length), .val (.int (d + 1)), .val (.lst (bins.map .int)), .val (.lst (bots.map .int)), .no, .no, .no, .no, .no, .no, .no, .no, .no, .no, .no, .no, .no, .no, .no, .no], sto⟩ = okk (.ret (.val (.int (bins.headD 0)))) ⟨[.val (.ref ms.length), .val (.int (d + 1)), .val (.lst (bins.map .int)), .val (.lst (bots.map .int)), .no, .no, .no, .no, .no, .no, .no, .no, .no, .no, .no, .no, .no, .no, .no, .no], sto1⟩) ∨
      ∃ sto1, Hk ms (m + 1) sto1 ∧ exS (cfg M (k + 2)) (.ite (.tor (.cmp .Eq (.loc 1) (.cI 0)) (.tand (.cmp .Eq (.len (.loc 2)) (.cI 1)) (.cmp .Gt (.call "_law_draw" (.cons (.loc 0) (.cons (.cI 3) .nil))) (.cI 0)))) (.seq (.ret (.idx (.loc 2) (.cI 0))) .skip) .skip) ⟨[.val (.ref ms.length), .val (.int (d + 1)), .val (.lst (bins.map .int)), .val (.lst (bots.map .int)), .no, .no, .no, .no, .no, .no, .no, .no, .no, .no, .no, .no, .no, .no, .no, .no], sto⟩ = okk .nx ⟨[.val (.ref ms.length), .val (.int (d + 1)), .val (.lst (bins.map .int)), .val (.lst (bots.map .int)), .no, .no, .no, .no, .no, .no, .no, .no, .no, .no, .no, .no, .no, .no, .no, .no], sto1⟩ := by
  have d0 : ¬ (d : Int) + 1 = 0 := by omega
  by_cases h1 : bins.length = 1
  · obtain ⟨v, sto1, e, v0, v1, hk1⟩ := sp_draw (M := M) (k := k + 1) (many := 3) hk (by omega) (by omega) (by omega)
    by_cases hv : 0 < v
    · refine .inl ⟨sto1, hk1, h1, ?_⟩
      have a0 : atD (bins.map D.int) 0 = some (.int (bins.headD 0)) := by
        cases bins with
        | nil => exact absurd rfl bn
        | cons b r => exact at0
      simp [exS, evE, evL, Sl.at, brw, Opd.get, eq_int, d0, lenOp, h1, e, gtOp, hv, idxOp, a0]
    · refine .inr ⟨sto1, hk1, ?_⟩
      simp [exS, evE, evL, Sl.at, brw, Opd.get, eq_int, d0, lenOp, h1, e, gtOp, hv]
  · have h1' : ¬ ((bins.length : Nat) : Int) = 1 := by omega
    refine .inr ⟨sto, hk.le (by omega), ?_⟩
    simp [exS, evE, evL, Sl.at, brw, Opd.get, eq_int, d0, lenOp, h1']
theorem lr_lots {k m d : Nat} {bins bots : List Int} {sto1 : List (List D)} (bn : bins ≠ []) (b8 : bins.length ≤ 8) (hk1 : Hk ms (m + 1) sto1) (hm : m + 60 < 2 ^ 100) :
    ∃ (many : Nat) (lots : List (List Int)) (e7 e14 : Sl) (sto3 : List (List D)), 1 ≤ many ∧ many ≤ 4 ∧ (∀ xs, e7 ≠ .own xs) ∧ lots.flatten = bins ∧ lots.length = many ∧ (∀ l ∈ lots, l ≠ []) ∧ Hk ms (m + 1 + 1 + many) sto3 ∧
      ∀ R : S, exS (cfg M (k + 2)) (.seq (.par [4, 5, 6] (.cons (.blt .min (.cons (.len (.loc 2)) (.cons (.call "_law_any" (.cons (.loc 0) (.cons (.lst (.cons (.cI 1) (.cons (.cI 2) (.cons (.cI 2) (.cons (.cI 3) (.cons (.cI 3) (.cons (.cI 4) .nil))))))) .nil))) .nil))) (.cons (.blt .list (.cons (.loc 2) .nil)) (.cons (.lst .nil) .nil)))) (.seq (.for (.nm 7) (.rng1 (.loc 4)) lotB) R)) ⟨[.val (.ref ms.length), .val (.int (d + 1)), .val (.lst (bins.map .int)), .val (.lst (bots.map .int)), .no, .no, .no, .no, .no, .no, .no, .no, .no, .no, .no, .no, .no, .no, .no, .no], sto1⟩ = exS (cfg M (k + 2)) R ⟨[.val (.ref ms.length), .val (.int (d + 1)), .val (.lst (bins.map .int)), .val (.lst (bots.map .int)), .val (.int many), .own [], .own (lotsD lots), e7, .no, .no, .no, .no, .no, .no, e14, .no, .no, .no, .no, .no], sto3⟩ := by
  have bl : 0 < bins.length := List.length_pos_iff.mpr bn
  -- how many parts
  obtain ⟨x, sto2, a2, x2, hk2⟩ := sp_any (M := M) (k := k) (xs := [1, 2, 2, 3, 3, 4].map D.int) hk1 (by omega) (by simp) (by simp)
  obtain ⟨y, rfl, y0, y1⟩ := mem_int (P := fun i => 1 ≤ i ∧ i ≤ 4) (by
    intro i hi
    simp at hi
    omega) x2
  obtain ⟨mi, emi⟩ : ∃ mi : Int, mi = if y < (bins.length : Int) then y else (bins.length : Int) := ⟨_, rfl⟩
  have mi1 : 1 ≤ mi ∧ mi ≤ bins.length ∧ mi ≤ 4 := by rw [emi]; split <;> omega
  obtain ⟨many, emany⟩ : ∃ many : Nat, (many : Int) = mi := ⟨mi.toNat, by omega⟩
  have sz6 : (6 : Nat) ≤ szL := by decide
  simp at a2
  have st2 : exS (cfg M (k + 2)) (.par [4, 5, 6] (.cons (.blt .min (.cons (.len (.loc 2)) (.cons (.call "_law_any" (.cons (.loc 0) (.cons (.lst (.cons (.cI 1) (.cons (.cI 2) (.cons (.cI 2) (.cons (.cI 3) (.cons (.cI 3) (.cons (.cI 4) .nil))))))) .nil))) .nil))) (.cons (.blt .list (.cons (.loc 2) .nil)) (.cons (.lst .nil) .nil)))) ⟨[.val (.ref ms.length), .val (.int (d + 1)), .val (.lst (bins.map .int)), .val (.lst (bots.map .int)), .no, .no, .no, .no, .no, .no, .no, .no, .no, .no, .no, .no, .no, .no, .no, .no], sto1⟩ =
      okk .nx ⟨[.val (.ref ms.length), .val (.int (d + 1)), .val (.lst (bins.map .int)), .val (.lst (bots.map .int)), .val (.int many), .own (bins.map .int), .own (lotsD []), .no, .no, .no, .no, .no, .no, .no, .no, .no, .no, .no, .no, .no], sto2⟩ := by
    rw [emany, emi]
    simp [exS, evRs, evE, evL, Sl.at, brw, Opd.get, lenOp, a2, sz6, min_int, list_ints, setAll, setT, bindT, lotsD]
  obtain ⟨lots, sto3, e7, e14, q7, q1, q2, q3, hk3, fg⟩ := lots_loop (M := M) (k := k + 1) (dp := .int (d + 1)) (B := .lst (bins.map .int)) (bo := .lst (bots.map .int)) (many := many) (by omega) many 0 [] bins (m + 1 + 1) sto2 .no .no (by omega) (by simp; omega) (by omega) (fun z => by omega) b8 (fun _ h => nomatch h) (fun _ z => nomatch z) hk2 (by omega)
  rw [← List.range_eq_range'] at fg
  have sm62 : small62 (many : Int) := ⟨by omega, by omega⟩
  have ev : evI (cfg M (k + 2)) (.rng1 (.loc 4)) ⟨[.val (.ref ms.length), .val (.int (d + 1)), .val (.lst (bins.map .int)), .val (.lst (bots.map .int)), .val (.int many), .own (bins.map .int), .own (lotsD []), .no, .no, .no, .no, .no, .no, .no, .no, .no, .no, .no, .no, .no], sto2⟩ = okk ((List.range many).map fun (i : Nat) => D.int i) ⟨[.val (.ref ms.length), .val (.int (d + 1)), .val (.lst (bins.map .int)), .val (.lst (bots.map .int)), .val (.int many), .own (bins.map .int), .own (lotsD []), .no, .no, .no, .no, .no, .no, .no, .no, .no, .no, .no, .no, .no], sto2⟩ := by
    exact evI_rng1 (x := .int (many : Int)) (by simp [evE, Sl.at]) (rng1_nat sm62)
  have st3 := (for_ex (t := .nm 7) (b := lotB) ev).trans fg
  refine ⟨many, lots, e7, e14, sto3, by omega, by omega, q7, q1, by rw [q2]; simp, q3, hk3, fun R => ?_⟩
  rw [seq_nx st2, seq_nx st3]
theorem lr_shares {k m0 d many : Nat} {bins bots : List Int} {lots : List (List Int)} {e7 e14 : Sl} {sto3 : List (List D)} (hb : botsOk bots) (m1 : 1 ≤ many) (m4 : many ≤ 4) (q7 : ∀ xs, e7 ≠ .own xs) (hk3 : Hk ms m0 sto3) (hm : m0 + 20 < 2 ^ 100) :
    ∃ (bot : Int) (cuts sh : List Int) (sto5 : List (List D)), 1 ≤ bot ∧ bot ≤ 1000 ∧ sh.length = many ∧ sh.sum = bot ∧ (∀ s ∈ sh, 0 ≤ s ∧ s ≤ bot) ∧ Hk ms (m0 + 1 + (many - 1)) sto5 ∧
      ∀ R : S, exS (cfg M (k + 2)) (.seq (.set (.nm 8) (.call "_law_any" (.cons (.loc 0) (.cons (.loc 3) .nil)))) (.seq (.set (.nm 9) (.blt .sorted (.cons (.comp [7] (.call "_law_draw" (.cons (.loc 0) (.cons (.bin .Add (.loc 8) (.cI 1)) .nil))) (.nm 7) (.rng1 (.bin .Sub (.loc 4) (.cI 1))) (.cB true)) .nil))) (.seq (.set (.nm 10) (.comp [18, 19] (.bin .Sub (.loc 19) (.loc 18)) (.cons (.nm 18) (.cons (.nm 19) .nil)) (.zip2 (.bin .Add (.lst (.cons (.cI 0) .nil)) (.loc 9)) (.bin .Add (.loc 9) (.lst (.cons (.loc 8) .nil)))) (.cB true))) (.seq (.set (.nm 11) (.lst .nil)) R)))) ⟨[.val (.ref ms.length), .val (.int (d + 1)), .val (.lst (bins.map .int)), .val (.lst (bots.map .int)), .val (.int many), .own [], .own (lotsD lots), e7, .no, .no, .no, .no, .no, .no, e14, .no, .no, .no, .no, .no], sto3⟩ = exS (cfg M (k + 2)) R ⟨[.val (.ref ms.length), .val (.int (d + 1)), .val (.lst (bins.map .int)), .val (.lst (bots.map .int)), .val (.int many), .own [], .own (lotsD lots), e7, .val (.int bot), .val (.lst (cuts.map .int)), .own (sh.map .int), .own [], .no, .no, e14, .no, .no, .no, .no, .no], sto5⟩ := by
  -- the bottom
  obtain ⟨z, sto4, a4, z4, hk4⟩ := sp_any (M := M) (k := k) (xs := bots.map D.int) hk3 (by omega) (by simpa using hb.1) (by rw [List.length_map]; have := hb.2.1; omega)
  obtain ⟨bot, rfl, bot1, bot2⟩ := mem_int (P := fun i => 1 ≤ i ∧ i ≤ 1000) (fun i hi => hb.2.2 i hi) z4
  have st4 : exS (cfg M (k + 2)) (.set (.nm 8) (.call "_law_any" (.cons (.loc 0) (.cons (.loc 3) .nil)))) ⟨[.val (.ref ms.length), .val (.int (d + 1)), .val (.lst (bins.map .int)), .val (.lst (bots.map .int)), .val (.int many), .own [], .own (lotsD lots), e7, .no, .no, .no, .no, .no, .no, e14, .no, .no, .no, .no, .no], sto3⟩ =
      okk .nx ⟨[.val (.ref ms.length), .val (.int (d + 1)), .val (.lst (bins.map .int)), .val (.lst (bots.map .int)), .val (.int many), .own [], .own (lotsD lots), e7, .val (.int bot), .no, .no, .no, .no, .no, e14, .no, .no, .no, .no, .no], sto4⟩ := by
    simp [exS, evE, evL, Sl.at, a4, setT, bindT]
  -- the cuts
  have fo : freeOf [.val (.ref ms.length), .val (.int (d + 1)), .val (.lst (bins.map .int)), .val (.lst (bots.map .int)), .val (.int many), .own [], .own (lotsD lots), e7, .val (.int bot), .no, .no, .no, .no, .no, e14, .no, .no, .no, .no, .no] [7] = true := by
    cases e7 <;> first | rfl | exact absurd rfl (q7 _)
  have sm61 : small62 ((many : Int) - 1) := ⟨by omega, by omega⟩
  obtain ⟨out, sto5, ce, vs, o1, o2, o3, hk5⟩ := comp_ev (C := cfg M (k + 2)) (vs := [7]) (t := .nm 7) (e := .call "_law_draw" (.cons (.loc 0) (.cons (.bin .Add (.loc 8) (.cI 1)) .nil))) (src := .rng1 (.bin .Sub (.loc 4) (.cI 1))) (c := .cB true) (s := ⟨[.val (.ref ms.length), .val (.int (d + 1)), .val (.lst (bins.map .int)), .val (.lst (bots.map .int)), .val (.int many), .own [], .own (lotsD lots), e7, .val (.int bot), .no, .no, .no, .no, .no, e14, .no, .no, .no, .no, .no], sto4⟩)
    (s1 := ⟨[.val (.ref ms.length), .val (.int (d + 1)), .val (.lst (bins.map .int)), .val (.lst (bots.map .int)), .val (.int many), .own [], .own (lotsD lots), e7, .val (.int bot), .no, .no, .no, .no, .no, e14, .no, .no, .no, .no, .no], sto4⟩) (items := (List.range ((many : Int) - 1).toNat).map fun i => .int (i : Nat))
    (fun acc r sto => ∃ vs : List Int, acc = vs.map .int ∧ (∀ v ∈ vs, 0 ≤ v ∧ v ≤ bot) ∧ vs.length + r.length = many - 1 ∧ Hk ms (m0 + 1 + vs.length) sto) (by simp [evI, evE, Sl.at, sub_int, Pi.rng1, sm61]) fo ⟨[], rfl, fun _ h => (by cases h), (by simp <;> omega), hk4⟩ (by
    rintro x r acc sto ⟨vs, rfl, v1, v2, v3⟩
    rw [List.length_cons] at v2
    obtain ⟨v, sto', e, w0, w1, hk'⟩ := sp_draw (M := M) (k := k + 1) (many := bot + 1) v3 (by omega) (by omega) (by omega)
    refine ⟨[.val (.ref ms.length), .val (.int (d + 1)), .val (.lst (bins.map .int)), .val (.lst (bots.map .int)), .val (.int many), .own [], .own (lotsD lots), .val x, .val (.int bot), .no, .no, .no, .no, .no, e14, .no, .no, .no, .no, .no], rfl, .inl ⟨.val (.int v), [.val (.ref ms.length), .val (.int (d + 1)), .val (.lst (bins.map .int)), .val (.lst (bots.map .int)), .val (.int many), .own [], .own (lotsD lots), .val x, .val (.int bot), .no, .no, .no, .no, .no, e14, .no, .no, .no, .no, .no], sto', rfl, ?_, rfl, ?_, vs ++ [v], by simp, ?_, by simp; omega, hk'.le (by simp; omega)⟩⟩
    · simp [evE, evL, Sl.at, add_int, e]
    · have big : (1000 : Nat) ≤ szL := by decide
      simp; omega
    · intro u hu
      rcases List.mem_append.mp hu with hu | hu
      · exact v1 u hu
      · rw [List.mem_singleton.mp hu]; omega)
  subst o1
  have sl : (sortI vs).length = many - 1 := by rw [(sortI_perm vs).length_eq]; simpa using o3
  have sb : ∀ v ∈ sortI vs, 0 ≤ v ∧ v ≤ bot := fun v hv => o2 v ((sortI_perm vs).mem_iff.mp hv)
  have srt : sortedOp [.lst (vs.map .int)] = some (.new ((sortI vs).map .int)) := by
    show (allInts _).map _ = _
    rw [allInts_int]; rfl
  have st5 : exS (cfg M (k + 2)) (.set (.nm 9) (.blt .sorted (.cons (.comp [7] (.call "_law_draw" (.cons (.loc 0) (.cons (.bin .Add (.loc 8) (.cI 1)) .nil))) (.nm 7) (.rng1 (.bin .Sub (.loc 4) (.cI 1))) (.cB true)) .nil))) ⟨[.val (.ref ms.length), .val (.int (d + 1)), .val (.lst (bins.map .int)), .val (.lst (bots.map .int)), .val (.int many), .own [], .own (lotsD lots), e7, .val (.int bot), .no, .no, .no, .no, .no, e14, .no, .no, .no, .no, .no], sto4⟩ =
      okk .nx ⟨[.val (.ref ms.length), .val (.int (d + 1)), .val (.lst (bins.map .int)), .val (.lst (bots.map .int)), .val (.int many), .own [], .own (lotsD lots), e7, .val (.int bot), .own ((sortI vs).map .int), .no, .no, .no, .no, e14, .no, .no, .no, .no, .no], sto5⟩ := by
    have e0 : evL (cfg M (k + 2)) (.cons (.comp [7] (.call "_law_draw" (.cons (.loc 0) (.cons (.bin .Add (.loc 8) (.cI 1)) .nil))) (.nm 7) (.rng1 (.bin .Sub (.loc 4) (.cI 1))) (.cB true)) .nil) ⟨[.val (.ref ms.length), .val (.int (d + 1)), .val (.lst (bins.map .int)), .val (.lst (bots.map .int)), .val (.int many), .own [], .own (lotsD lots), e7, .val (.int bot), .no, .no, .no, .no, .no, e14, .no, .no, .no, .no, .no], sto4⟩ = okk [.lst (vs.map .int)] ⟨[.val (.ref ms.length), .val (.int (d + 1)), .val (.lst (bins.map .int)), .val (.lst (bots.map .int)), .val (.int many), .own [], .own (lotsD lots), e7, .val (.int bot), .no, .no, .no, .no, .no, e14, .no, .no, .no, .no, .no], sto5⟩ := by
      show bnd (fz (evE _ _ _)) _ = _
      rw [ce]; rfl
    show bnd (bnd (evL _ _ _) _) _ = _
    rw [e0]
    simp [srt, setT]
  -- the shares
  obtain ⟨sh, esh⟩ : ∃ sh, sh = diffs 0 (sortI vs) bot := ⟨_, rfl⟩
  obtain ⟨s1, s2, s3⟩ := diffs_ok (sortI vs) 0 bot (List.pairwise_cons.mpr ⟨fun v hv => (sb v hv).1, sortI_up vs⟩) (fun c hc => by
    rcases List.mem_cons.mp hc with rfl | hc
    · omega
    · exact (sb c hc).2)
  rw [← esh] at s1 s2 s3
  have big : (1000 : Nat) ≤ szL := by decide
  have ad1 : addOp (.lst [.int 0]) (.lst ((sortI vs).map .int)) = some (.new ((0 :: sortI vs).map .int)) := by
    show gd (_ ≤ szL) _ = _
    exact if_pos (by simp; omega)
  have ad2 : addOp (.lst ((sortI vs).map .int)) (.lst [.int bot]) = some (.new ((sortI vs ++ [bot]).map .int)) := by
    show gd (_ ≤ szL) _ = _
    rw [List.map_append]
    exact if_pos (by simp; omega)
  have zc := comp_rel (C := cfg M (k + 2)) (vs := [18, 19]) (e := .bin .Sub (.loc 19) (.loc 18)) (t := .cons (.nm 18) (.cons (.nm 19) .nil)) (src := .zip2 (.bin .Add (.lst (.cons (.cI 0) .nil)) (.loc 9)) (.bin .Add (.loc 9) (.lst (.cons (.loc 8) .nil)))) (s := ⟨[.val (.ref ms.length), .val (.int (d + 1)), .val (.lst (bins.map .int)), .val (.lst (bots.map .int)), .val (.int many), .own [], .own (lotsD lots), e7, .val (.int bot), .own ((sortI vs).map .int), .no, .no, .no, .no, e14, .no, .no, .no, .no, .no], sto5⟩)
    (s1 := ⟨[.val (.ref ms.length), .val (.int (d + 1)), .val (.lst (bins.map .int)), .val (.lst (bots.map .int)), .val (.int many), .own [], .own (lotsD lots), e7, .val (.int bot), .val (.lst ((sortI vs).map .int)), .no, .no, .no, .no, e14, .no, .no, .no, .no, .no], sto5⟩) (diffs_zip (sortI vs) 0 bot) (by
      have one1 : (1 : Nat) ≤ szL := by decide
      obtain ⟨u1, eu1⟩ : ∃ u1, u1 = (0 :: sortI vs).map D.int := ⟨_, rfl⟩
      obtain ⟨u2, eu2⟩ : ∃ u2, u2 = (sortI vs ++ [bot]).map D.int := ⟨_, rfl⟩
      rw [← eu1] at ad1
      rw [← eu2] at ad2
      rw [← eu1, ← eu2]
      simp [evI, evE, evL, Sl.at, one1, ad1, ad2, zipD]) rfl (by
      have := (diffs_zip (sortI vs) 0 bot).length
      rw [this, List.length_map, ← esh, s3]
      omega) (by
    rintro x y ⟨p, q, rfl, rfl⟩
    exact ⟨[.val (.ref ms.length), .val (.int (d + 1)), .val (.lst (bins.map .int)), .val (.lst (bots.map .int)), .val (.int many), .own [], .own (lotsD lots), e7, .val (.int bot), .val (.lst ((sortI vs).map .int)), .no, .no, .no, .no, e14, .no, .no, .no, .val (.int p), .val (.int q)], .val (.int (q - p)), rfl, rfl, by simp [evE, Sl.at, sub_int], rfl⟩)
  rw [← esh] at zc
  have st6 : exS (cfg M (k + 2)) (.set (.nm 10) (.comp [18, 19] (.bin .Sub (.loc 19) (.loc 18)) (.cons (.nm 18) (.cons (.nm 19) .nil)) (.zip2 (.bin .Add (.lst (.cons (.cI 0) .nil)) (.loc 9)) (.bin .Add (.loc 9) (.lst (.cons (.loc 8) .nil)))) (.cB true))) ⟨[.val (.ref ms.length), .val (.int (d + 1)), .val (.lst (bins.map .int)), .val (.lst (bots.map .int)), .val (.int many), .own [], .own (lotsD lots), e7, .val (.int bot), .own ((sortI vs).map .int), .no, .no, .no, .no, e14, .no, .no, .no, .no, .no], sto5⟩ =
      okk .nx ⟨[.val (.ref ms.length), .val (.int (d + 1)), .val (.lst (bins.map .int)), .val (.lst (bots.map .int)), .val (.int many), .own [], .own (lotsD lots), e7, .val (.int bot), .val (.lst ((sortI vs).map .int)), .own (sh.map .int), .no, .no, .no, e14, .no, .no, .no, .no, .no], sto5⟩ := by
    show bnd (evE _ _ _) _ = _
    rw [zc]
    simp [setT]
  have st7 : exS (cfg M (k + 2)) (.set (.nm 11) (.lst .nil)) ⟨[.val (.ref ms.length), .val (.int (d + 1)), .val (.lst (bins.map .int)), .val (.lst (bots.map .int)), .val (.int many), .own [], .own (lotsD lots), e7, .val (.int bot), .val (.lst ((sortI vs).map .int)), .own (sh.map .int), .no, .no, .no, e14, .no, .no, .no, .no, .no], sto5⟩ =
      okk .nx ⟨[.val (.ref ms.length), .val (.int (d + 1)), .val (.lst (bins.map .int)), .val (.lst (bots.map .int)), .val (.int many), .own [], .own (lotsD lots), e7, .val (.int bot), .val (.lst ((sortI vs).map .int)), .own (sh.map .int), .own [], .no, .no, e14, .no, .no, .no, .no, .no], sto5⟩ := by
    simp [exS, evE, evL, setT, szL]
  have vl : vs.length = many - 1 := by simpa using o3
  refine ⟨bot, sortI vs, sh, sto5, bot1, bot2, by rw [s3, sl]; omega, by omega, fun s hs => by have := s2 s hs; omega, by rw [← vl]; exact hk5, fun R => ?_⟩
  rw [seq_nx st4, seq_nx st5, seq_nx st6, seq_nx st7]
theorem lr_step {k d : Nat} {bots : List Int} (hb : botsOk bots) (ih : LR M ms (k + 2) (costR d) d bots) : LR M ms (k + 3) (costR (d + 1)) (d + 1) bots := by
  intro bins m sto hbins hk hm
  have ec : costR (d + 1) = 60 + 5 * costR d := rfl
  obtain ⟨bn, b8, b07⟩ := hbins
  rw [fns_at H__law_recipe.tb__law_recipe, run1 rfl]
  show ∃ r sto', outF (exS (cfg M (k + 2)) i__law_recipe.body ⟨[.val (.ref ms.length), .val (.int ((d + 1 : Nat) : Int)), .val (.lst (bins.map .int)), .val (.lst (bots.map .int)), .no, .no, .no, .no, .no, .no, .no, .no, .no, .no, .no, .no, .no, .no, .no, .no], sto⟩) = _ ∧ _
  rw [show ((d + 1 : Nat) : Int) = (d : Int) + 1 from rfl]
  simp only [i__law_recipe, c__law_recipe_1, c__law_recipe_2, b__law_recipe_1, b__law_recipe_2]
  rcases lr_first (M := M) (k := k) (d := d) (bots := bots) bn hk (by omega) with ⟨sto1, hk1, h1, st1⟩ | ⟨sto1, hk1, st1⟩
  · cases bins with
    | nil => exact absurd rfl bn
    | cons b r =>
      refine ⟨.bin b, sto1, ?_, .inl ⟨b, rfl, b07 b List.mem_cons_self⟩, ?_, Nat.zero_le _, hk1.le (by omega)⟩
      · show outF (bnd (exS _ _ _) _) = _
        rw [st1]; rfl
      · show [b].Sublist (b :: r)
        exact List.Sublist.cons_cons b (List.nil_sublist r)
  rw [seq_nx st1]
  obtain ⟨many, lots, e7, e14, sto3, m1, m4, q7, fl, ll, q3, hk3, eq3⟩ := lr_lots (M := M) (k := k) (d := d) (bots := bots) bn b8 hk1 (by omega)
  show ∃ r sto', outF (exS (cfg M (k + 2)) (.seq _ (.seq (.for (.nm 7) (.rng1 (.loc 4)) lotB) _)) _) = _ ∧ _
  rw [eq3]
  obtain ⟨bot, cuts, sh, sto5, bot1, bot2, shl, ssum, s2, hk5, eq5⟩ := lr_shares (M := M) (k := k) (d := d) (bins := bins) (lots := lots) (e14 := e14) hb m1 m4 q7 hk3 (by omega)
  rw [eq5]
  have lotok : ∀ l ∈ lots, binsOk l := by
    intro l hl
    have sub : l.Sublist bins := by rw [← fl]; exact List.sublist_flatten_of_mem hl
    exact ⟨q3 l hl, Nat.le_trans sub.length_le b8, fun b hb => b07 b (sub.subset hb)⟩
  have mc : sh.length * (5 + costR d) ≤ 4 * (5 + costR d) := Nat.mul_le_mul_right _ (by omega)
  obtain ⟨row, ls, gs, sto6, e12', e13', e15', e16', e17', ro, hk6, fg6⟩ := row_loop (M := M) (k := k) (cost := costR d) (dp := d) (bots := bots) (B := bins.map .int) (e4 := .val (.int many)) (e5 := .own []) (e6 := .val (.lst (lotsD lots))) (e7 := e7) (e9 := .val (.lst (cuts.map .int))) (e10 := .val (.lst (sh.map .int))) (e14 := e14) ih bot1 bot2 sh lots [] (m + 1 + 1 + many + 1 + (many - 1)) sto5 .no .no .no .no .no (by omega) s2 lotok hk5 (by omega) (by simp; omega)
  have st8 := (for_ex (C := cfg M (k + 2)) (t := .cons (.nm 12) (.cons (.nm 13) .nil)) (src := .zip2 (.loc 10) (.loc 6)) (b := rowB) (s := ⟨[.val (.ref ms.length), .val (.int (d + 1)), .val (.lst (bins.map .int)), .val (.lst (bots.map .int)), .val (.int many), .own [], .own (lotsD lots), e7, .val (.int bot), .val (.lst (cuts.map .int)), .own (sh.map .int), .own [], .no, .no, e14, .no, .no, .no, .no, .no], sto5⟩)
    (s1 := ⟨[.val (.ref ms.length), .val (.int (d + 1)), .val (.lst (bins.map .int)), .val (.lst (bots.map .int)), .val (.int many), .own [], .val (.lst (lotsD lots)), e7, .val (.int bot), .val (.lst (cuts.map .int)), .val (.lst (sh.map .int)), .own [], .no, .no, e14, .no, .no, .no, .no, .no], sto5⟩) (items := ((sh.map D.int).zip (lotsD lots)).map fun p => .tup [p.1, p.2]) (by simp [evI, evE, Sl.at, zipD])).trans fg6
  show ∃ r sto', outF (exS (cfg M (k + 2)) (.seq (.for (.cons (.nm 12) (.cons (.nm 13) .nil)) (.zip2 (.loc 10) (.loc 6)) rowB) _) _) = _ ∧ _
  rw [seq_nx st8]
  obtain ⟨rok, mix⟩ := ro.ok bot1 bot2 (fun z => by rw [z] at shl; simp at shl; omega) (by omega) ssum
  refine ⟨row, sto6, ?_, rok, ?_, ro.dep, hk6.le (by omega)⟩
  · rw [mix_d mix]
    simp [exS, evE, evL, Sl.at, tupleOp, outF]
  · have := ro.bins
    rw [fl] at this
    exact this
theorem lr_all {bots : List Int} (hb : botsOk bots) : ∀ (d L : Nat), d + 3 ≤ L → LR M ms L (costR d) d bots
  | 0, L, hL => by
    intro bins m sto hbins hk hm
    obtain ⟨n, rfl⟩ : ∃ n, L = n + 1 := ⟨L - 1, by omega⟩
    obtain ⟨bn, b8, b07⟩ := hbins
    cases bins with
    | nil => exact absurd rfl bn
    | cons b r =>
      refine ⟨.bin b, sto, ?_, .inl ⟨b, rfl, b07 b List.mem_cons_self⟩, List.Sublist.cons_cons b (List.nil_sublist r), Nat.zero_le _, hk.le (Nat.le_add_right _ _)⟩
      rw [fns_at H__law_recipe.tb__law_recipe, run1 rfl]
      have a0 : atD (D.int b :: r.map D.int) 0 = some (.int b) := at0
      simp [i__law_recipe, exS, evE, evL, Sl.at, brw, Opd.get, eq_int, idxOp, a0, outF]
      rfl
  | d + 1, L, hL => by
    obtain ⟨k, rfl⟩ : ∃ k, L = k + 3 := ⟨L - 3, by omega⟩
    exact lr_step hb (lr_all hb d (k + 2) (by omega))
end
end Lib

set_option Elab.async false
set_option linter.all false
set_option maxRecDepth 100000
set_option maxHeartbeats 1000000
namespace Lib
open PySem L2 Pi
section
variable {M : Md} {ms : List (List D)} [H__law_drawn M]
/-! the law's drawn recipes -/
def bots0 : List Int := [1, 2, 3, 4, 5, 6, 8, 12, 60, 997, 1000]
theorem bots0_ok : botsOk bots0 := ⟨by simp [bots0], by simp [bots0], fun b hb => by simp [bots0] at hb; omega⟩
theorem map_erase {α β : Type} {f : α → β} : ∀ {l : List α} {i : Nat}, (l.map f).eraseIdx i = (l.eraseIdx i).map f
  | [], _ => rfl
  | _ :: _, 0 => rfl
  | a :: l, i + 1 => by
    show f a :: (l.map f).eraseIdx i = f a :: (l.eraseIdx i).map f
    rw [map_erase]
theorem erase_perm {α : Type} : ∀ {l : List α} {i : Nat} (h : i < l.length), (l[i] :: l.eraseIdx i).Perm l
  | a :: l, 0, _ => List.Perm.refl _
  | a :: l, i + 1, h => by
    have h' : i < l.length := by simpa using h
    have q := erase_perm (l := l) (i := i) h'
    show (l[i] :: a :: l.eraseIdx i).Perm (a :: l)
    exact (List.Perm.swap a l[i] _).trans (q.cons a)
theorem pop_ints {l : List Int} {v : Int} (h0 : 0 ≤ v) (h1 : v < l.length) (h2 : l.length ≤ 8) : ∃ x ∈ l, popOp (l.map .int) [.int v] = some (.int x, (l.eraseIdx v.toNat).map .int) ∧ (x :: l.eraseIdx v.toNat).Perm l := by
  have h : v.toNat < l.length := by omega
  refine ⟨l[v.toNat], List.getElem_mem h, ?_, ?_⟩
  · have e : popOp (l.map .int) [.int v] = gd (-(2 ^ 63) ≤ v ∧ v < 2 ^ 63) ((ixOf (l.map D.int).length v).bind fun k => ((l.map D.int)[k]?).map fun y => (y, (l.map D.int).eraseIdx k)) := rfl
    rw [e, show ∀ m : Option (D × List D), gd (-(2 ^ 63) ≤ v ∧ v < 2 ^ 63) m = m from fun m => if_pos ⟨by omega, by omega⟩]
    have ix : ixOf (l.map D.int).length v = some v.toNat := by
      unfold ixOf
      rw [List.length_map, if_pos h0, if_pos h1]
    rw [ix, Option.bind_some, List.getElem?_map, List.getElem?_eq_getElem h]
    show some (D.int l[v.toNat], (l.map D.int).eraseIdx v.toNat) = _
    rw [map_erase]
  · exact erase_perm h
theorem sp_drawn {k m d many : Nat} {sto : List (List D)} (hk : Hk ms m sto) (d1 : 1 ≤ d) (d5 : d ≤ 5) (m1 : 1 ≤ many) (m8 : many ≤ 8) (hm : m + 100 + costR 5 < 2 ^ 100) :
    ∃ (r : Rc) (sto' : List (List D)), (cfg M (k + 10)).fns "_law_drawn" [.ref ms.length, .int d, .int many] sto = some (.ok (.val r.d), sto') ∧ r.ok ∧ r.bins.Nodup ∧ r.bins.length ≤ 8 ∧ r.dep ≤ d ∧ Hk ms (m + 100 + costR 5) sto' := by
  rw [fns_at H__law_drawn.tb__law_drawn, run1 rfl]
  show ∃ r sto', outF (exS (cfg M (k + 9)) i__law_drawn.body ⟨[.val (.ref ms.length), .val (.int d), .val (.int many), .no, .no, .no, .no, .no], sto⟩) = _ ∧ _
  simp only [i__law_drawn, c__law_drawn_1]
  obtain ⟨left0, el⟩ : ∃ left0, left0 = (List.range many).map fun (i : Nat) => (i : Int) := ⟨_, rfl⟩
  have l0 : left0.length = many := by rw [el]; simp
  have nd0 : left0.Nodup := by
    rw [el]
    have : (List.range many).Pairwise (· ≠ ·) := List.nodup_range
    rw [List.Nodup, List.pairwise_map]
    exact this.imp fun h z => h (by omega)
  have b0 : ∀ x ∈ left0, 0 ≤ x ∧ x ≤ 7 := by
    intro x hx
    rw [el] at hx
    obtain ⟨i, hi, rfl⟩ := List.mem_map.mp hx
    have := List.mem_range.mp hi
    omega
  have big : (1000 : Nat) ≤ szL := by decide
  have sm62 : small62 (many : Int) := ⟨by omega, by omega⟩
  have rl : evE (cfg M (k + 9)) (.rlst1 (.loc 2)) ⟨[.val (.ref ms.length), .val (.int d), .val (.int many), .no, .no, .no, .no, .no], sto⟩ = okk (.new (left0.map .int)) ⟨[.val (.ref ms.length), .val (.int d), .val (.int many), .no, .no, .no, .no, .no], sto⟩ := by
    have gen : ∀ {C : Cfg} {s : Pi.St} {x : D} {l : List D}, evE C (.loc 2) s = okk (.val x) s → Pi.rng1 x = some l → l.length ≤ szL → evE C (.rlst1 (.loc 2)) s = okk (.new l) s := by
      intro C s x l h1 h2 h3
      show bnd (fz (evE C (.loc 2) s)) (fun x s => lift ((Pi.rng1 x).bind fun l => gd (l.length ≤ szL) (some (Rv.new l))) s) = _
      rw [h1]
      show lift ((Pi.rng1 x).bind fun l => gd (l.length ≤ szL) (some (Rv.new l))) s = _
      rw [h2, Option.bind_some, show ∀ m : Option Rv, gd (l.length ≤ szL) m = m from fun m => if_pos h3]
      rfl
    refine gen (x := .int (many : Int)) (by simp [evE, Sl.at]) ?_ (by rw [List.length_map, l0]; omega)
    rw [rng1_nat sm62, el, List.map_map]; rfl
  have s11 : (11 : Nat) ≤ szL := by decide
  have st1 : exS (cfg M (k + 9)) (.par [3, 4] (.cons (.rlst1 (.loc 2)) (.cons (.lst (.cons (.cI 1) (.cons (.cI 2) (.cons (.cI 3) (.cons (.cI 4) (.cons (.cI 5) (.cons (.cI 6) (.cons (.cI 8) (.cons (.cI 12) (.cons (.cI 60) (.cons (.cI 997) (.cons (.cI 1000) .nil)))))))))))) .nil))) ⟨[.val (.ref ms.length), .val (.int d), .val (.int many), .no, .no, .no, .no, .no], sto⟩ =
      okk .nx ⟨[.val (.ref ms.length), .val (.int d), .val (.int many), .own (left0.map .int), .own (bots0.map .int), .no, .no, .no], sto⟩ := by
    show bnd (bnd (evE _ _ _) _) _ = _
    rw [rl]
    simp [evRs, evE, evL, s11, setAll, setT, bots0]
  rw [seq_nx st1]
  -- how many bins
  obtain ⟨v1, sto1, e1, v10, v11, hk1⟩ := sp_draw (M := M) (k := k + 8) (many := many) hk (by omega) (by omega) (by omega)
  obtain ⟨x, sto2, a2, x2, hk2⟩ := sp_any (M := M) (k := k + 7) (xs := [(many : Int), many, 1 + v1].map D.int) hk1 (by omega) (by simp) (by simp)
  obtain ⟨so, rfl, so1, so2⟩ := mem_int (P := fun i => 1 ≤ i ∧ i ≤ many) (by
    intro i hi
    simp at hi
    omega) x2
  obtain ⟨some_, eso⟩ : ∃ some_ : Nat, (some_ : Int) = so := ⟨so.toNat, by omega⟩
  have s3 : (3 : Nat) ≤ szL := by decide
  simp at a2
  have st2 : exS (cfg M (k + 9)) (.set (.nm 5) (.call "_law_any" (.cons (.loc 0) (.cons (.lst (.cons (.loc 2) (.cons (.loc 2) (.cons (.bin .Add (.cI 1) (.call "_law_draw" (.cons (.loc 0) (.cons (.loc 2) .nil)))) .nil)))) .nil)))) ⟨[.val (.ref ms.length), .val (.int d), .val (.int many), .own (left0.map .int), .own (bots0.map .int), .no, .no, .no], sto⟩ =
      okk .nx ⟨[.val (.ref ms.length), .val (.int d), .val (.int many), .own (left0.map .int), .own (bots0.map .int), .val (.int some_), .no, .no], sto2⟩ := by
    rw [eso]
    simp [exS, evE, evL, Sl.at, e1, add_int, a2, s3, setT, bindT]
  rw [seq_nx st2]
  -- the bins, popped one by one: the frame changes within the block, so it is gone through by hand
  have pops : ∀ (r : List D) (acc left : List Int) (m' : Nat) (sto' : List (List D)) (e7 : Sl), (acc ++ left).Perm left0 → r.length ≤ left.length → Hk ms m' sto' → m' + r.length < 2 ^ 100 →
      ∃ (acc' left' : List Int) (sto'' : List (List D)) (e7' : Sl), (acc' ++ left').Perm left0 ∧ acc'.length = acc.length + r.length ∧ Hk ms (m' + r.length) sto'' ∧
        lcGo [7] (.nm 7) (evE (cfg M (k + 9)) (.cB true)) (evE (cfg M (k + 9)) (.mth .pop (.loc 3) (.cons (.call "_law_draw" (.cons (.loc 0) (.cons (.len (.loc 3)) .nil))) .nil))) r (acc.map .int) ⟨[.val (.ref ms.length), .val (.int d), .val (.int many), .own (left.map .int), .own (bots0.map .int), .val (.int some_), .no, e7], sto'⟩ =
          okk (acc'.map .int) ⟨[.val (.ref ms.length), .val (.int d), .val (.int many), .own (left'.map .int), .own (bots0.map .int), .val (.int some_), .no, e7'], sto''⟩ := by
    intro r
    induction r with
    | nil => exact fun acc left m' sto' e7 hp _ hk _ => ⟨acc, left, sto', e7, hp, rfl, hk, rfl⟩
    | cons x r ih =>
      intro acc left m' sto' e7 hp hl hk hm
      rw [List.length_cons] at hl hm
      have ll : acc.length + left.length = many := by
        have := hp.length_eq
        rw [List.length_append] at this
        omega
      obtain ⟨v, sto3, e, v0, v1, hk3⟩ := sp_draw (M := M) (k := k + 8) (many := left.length) hk (by omega) (by omega) (by omega)
      obtain ⟨y, hy, po, pp⟩ := pop_ints v0 v1 (by omega)
      obtain ⟨er, eer⟩ : ∃ er, er = left.eraseIdx v.toNat := ⟨_, rfl⟩
      rw [← eer] at po pp
      have ple := pp.length_eq
      rw [List.length_cons] at ple
      obtain ⟨acc', left', sto4, e7', q1, q2, q3, q4⟩ := ih (acc ++ [y]) er (m' + 1) sto3 (.val x) (by
        refine (List.Perm.trans ?_ hp)
        rw [List.append_assoc]
        exact (List.Perm.append_left acc pp)) (by omega) hk3 (by omega)
      refine ⟨acc', left', sto4, e7', q1, by rw [q2]; simp; omega, q3.le (by rw [List.length_cons]; omega), ?_⟩
      have b1 : bindT (.nm 7) x (wipeE [.val (.ref ms.length), .val (.int d), .val (.int many), .own (left.map .int), .own (bots0.map .int), .val (.int some_), .no, e7] [7]) = some [.val (.ref ms.length), .val (.int d), .val (.int many), .own (left.map .int), .own (bots0.map .int), .val (.int some_), .no, .val x] := rfl
      have c1 : evE (cfg M (k + 9)) (.cB true) ⟨[.val (.ref ms.length), .val (.int d), .val (.int many), .own (left.map .int), .own (bots0.map .int), .val (.int some_), .no, .val x], sto'⟩ = okk (.val (.bl true)) ⟨[.val (.ref ms.length), .val (.int d), .val (.int many), .own (left.map .int), .own (bots0.map .int), .val (.int some_), .no, .val x], sto'⟩ := rfl
      have p1 : evE (cfg M (k + 9)) (.mth .pop (.loc 3) (.cons (.call "_law_draw" (.cons (.loc 0) (.cons (.len (.loc 3)) .nil))) .nil)) ⟨[.val (.ref ms.length), .val (.int d), .val (.int many), .own (left.map .int), .own (bots0.map .int), .val (.int some_), .no, .val x], sto'⟩ =
          okk (.val (.int y)) ⟨[.val (.ref ms.length), .val (.int d), .val (.int many), .own (er.map .int), .own (bots0.map .int), .val (.int some_), .no, .val x], sto3⟩ := by
        simp [evE, evL, Sl.at, brw, Opd.get, Opd.put, lstOf, lenOp, e, po]
      have la : (acc.map D.int).length < szL := by rw [List.length_map]; omega
      unfold lcGo
      simp only [b1, c1, okk, p1]
      rw [show ∀ m : Rs (List D), gd ((acc.map D.int).length < szL) m = m from fun m => if_pos la]
      rw [List.map_append] at q4
      exact q4
  have sm6 : small62 (some_ : Int) := ⟨by omega, by omega⟩
  obtain ⟨bins, left', sto3, e7', q1, q2, hk3, q4⟩ := pops ((List.range some_).map fun (i : Nat) => D.int i) [] left0 (m + 1 + 1) sto2 .no (List.Perm.refl _) (by simp; omega) hk2 (by simp; omega)
  have blen : bins.length = some_ := by rw [q2]; simp
  have ci : evI (cfg M (k + 9)) (.rng1 (.loc 5)) ⟨[.val (.ref ms.length), .val (.int d), .val (.int many), .own (left0.map .int), .own (bots0.map .int), .val (.int some_), .no, .no], sto2⟩ = okk ((List.range some_).map fun (i : Nat) => D.int i) ⟨[.val (.ref ms.length), .val (.int d), .val (.int many), .own (left0.map .int), .own (bots0.map .int), .val (.int some_), .no, .no], sto2⟩ := by
    exact evI_rng1 (x := .int (some_ : Int)) (by simp [evE, Sl.at]) (rng1_nat sm6)
  have st3 : exS (cfg M (k + 9)) (.set (.nm 6) (.comp [7] (.mth .pop (.loc 3) (.cons (.call "_law_draw" (.cons (.loc 0) (.cons (.len (.loc 3)) .nil))) .nil)) (.nm 7) (.rng1 (.loc 5)) (.cB true))) ⟨[.val (.ref ms.length), .val (.int d), .val (.int many), .own (left0.map .int), .own (bots0.map .int), .val (.int some_), .no, .no], sto2⟩ =
      okk .nx ⟨[.val (.ref ms.length), .val (.int d), .val (.int many), .own (left'.map .int), .own (bots0.map .int), .val (.int some_), .own (bins.map .int), .no], sto3⟩ := by
    show bnd (bnd (evI _ _ _) _) _ = _
    rw [ci]
    show bnd (gd (freeOf [.val (.ref ms.length), .val (.int d), .val (.int many), .own (left0.map .int), .own (bots0.map .int), .val (.int some_), .no, .no] [7] = true) (bnd (lcGo _ _ _ _ _ ([].map D.int) ⟨[.val (.ref ms.length), .val (.int d), .val (.int many), .own (left0.map .int), .own (bots0.map .int), .val (.int some_), .no, .no], sto2⟩) _)) _ = _
    rw [q4]
    rfl
  rw [seq_nx st3]
  -- the recipe
  obtain ⟨v4, sto4, e4, v40, v41, hk4⟩ := sp_draw (M := M) (k := k + 8) (many := d) hk3 (by simp; omega) (by omega) (by omega)
  obtain ⟨y, sto5, a5, y5, hk5⟩ := sp_any (M := M) (k := k + 7) (xs := [(d : Int), d, 1 + v4].map D.int) hk4 (by simp; omega) (by simp) (by simp)
  obtain ⟨dd, rfl, dd1, dd2⟩ := mem_int (P := fun i => 1 ≤ i ∧ i ≤ d) (by
    intro i hi
    simp at hi
    omega) y5
  obtain ⟨dn, edn⟩ : ∃ dn : Nat, (dn : Int) = dd := ⟨dd.toNat, by omega⟩
  have bsub : (bins ++ left').Nodup := (q1.nodup_iff).mpr nd0
  have bok : binsOk bins := ⟨fun z => by rw [z] at blen; simp at blen; omega, by omega, fun b hb => b0 b (q1.mem_iff.mp (List.mem_append_left _ hb))⟩
  have cm : costR dn ≤ costR 5 := by
    have : dn ≤ 5 := by omega
    match dn, this with
    | 0, _ => decide
    | 1, _ => decide
    | 2, _ => decide
    | 3, _ => decide
    | 4, _ => decide
    | 5, _ => decide
  simp at hk5
  obtain ⟨r, sto6, e6, rok, rb, rd, hk6⟩ := lr_all (M := M) bots0_ok dn (k + 9) (by omega) bins _ sto5 bok hk5 (by omega)
  refine ⟨r, sto6, ?_, rok, (rb.nodup (List.nodup_append.mp bsub).1), Nat.le_trans rb.length_le (by omega), by omega, hk6.le (by omega)⟩
  simp at a5
  rw [edn] at e6
  simp [exS, evE, evL, Sl.at, e4, add_int, a5, s3, e6, outF]
end
end Lib

set_option Elab.async false
set_option linter.all false
set_option maxRecDepth 100000
set_option maxHeartbeats 1000000
namespace Lib
open PySem L2 Pi
/-! ### parts -/
def Rc.parts : Rc → List (Rat × Rat × Rc)
  | .cons lo hi q rest => (lo, hi, q) :: rest.parts | _ => []
def pt (p : Rat × Rat × Rc) : D := .tup [fr p.1, fr p.2.1, p.2.2.d]
theorem ps_parts : ∀ r : Rc, r.ps = r.parts.map pt
  | .bin _ => rfl | .nil => rfl
  | .cons lo hi q rest => by rw [ps_cons, ps_parts rest]; rfl
theorem parts_len (r : Rc) : r.parts.length = r.ps.length := by rw [ps_parts, List.length_map]
theorem parts_ok : ∀ r : Rc, r.row → ∀ p ∈ r.parts, p.2.2.ok ∧ p.2.2.dep + 1 ≤ r.dep ∧ partOk p.1 ∧ partOk p.2.1 ∧ p.1 ≤ p.2.1
  | .bin _, h, _, _ => h.elim
  | .nil, _, p, hp => by cases hp
  | .cons lo hi q rest, h, p, hp => by
    rcases List.mem_cons.mp hp with rfl | hp
    · exact ⟨h.2.2.2.1, Nat.le_max_left _ _, h.1, h.2.1, h.2.2.1⟩
    · obtain ⟨a, b, c⟩ := parts_ok rest h.2.2.2.2 p hp
      exact ⟨a, Nat.le_trans b (Nat.le_max_right _ _), c⟩
/-- right recipes, from the inside outwards -/
theorem rc_ind {P : Nat → Rc → Prop} (hb : ∀ L b, 0 ≤ b → b ≤ 7 → P L (.bin b)) (hm : ∀ L r, r.ok → r.row → r.isMix → r.ps.length ≤ 8 → (∀ p ∈ r.parts, P L p.2.2) → P (L + 1) r) :
    ∀ (n : Nat) (r : Rc), r.dep ≤ n → r.ok → ∀ L, r.dep ≤ L → P L r := by
  intro n
  induction n with
  | zero =>
    intro r hn h L hL
    rcases h with ⟨b, rfl, h0, h1⟩ | ⟨h1, h2⟩
    · exact hb L b h0 h1
    · cases r with
      | cons lo hi q rest => exact absurd (Nat.le_trans (Nat.le_max_left (q.dep + 1) rest.dep) hn) (Nat.not_succ_le_zero _)
      | _ => exact h2.1.elim
  | succ n ih =>
    intro r hn h L hL
    rcases id h with ⟨b, rfl, h0, h1⟩ | ⟨h1, h2⟩
    · exact hb L b h0 h1
    · have pos : 1 ≤ r.dep := by
        cases r with
        | cons lo hi q rest => exact Nat.le_trans (Nat.succ_le_succ (Nat.zero_le _)) (Nat.le_max_left (q.dep + 1) rest.dep)
        | _ => exact h2.1.elim
      obtain ⟨L', rfl⟩ : ∃ L', L = L' + 1 := ⟨L - 1, by omega⟩
      refine hm L' r h h1 h2.1 (by rw [ps_len]; exact h2.2.1) fun p hp => ?_
      obtain ⟨a, b, _⟩ := parts_ok r h1 p hp
      exact ih p.2.2 (by omega) a L' (by omega)
theorem put_parts (b : Int) (o : Rc) : ∀ r : Rc, r.row → (r.put b o).ps = r.parts.map (fun p => .tup [fr p.1, fr p.2.1, (p.2.2.put b o).d])
  | .bin _, h => h.elim
  | .nil, _ => rfl
  | .cons lo hi q rest, h => by
    show .tup [fr lo, fr hi, (q.put b o).d] :: (rest.put b o).ps = _
    rw [put_parts b o rest h.2.2.2.2]; rfl
theorem is_tup {r : Rc} (h : r.isMix) : r.d = .tup (r.parts.map pt) := by rw [mix_d h, ps_parts]
theorem put_mix {r : Rc} (h : r.isMix) (b : Int) (o : Rc) : (r.put b o).isMix := by
  cases r with
  | cons => exact trivial
  | _ => exact h.elim
theorem put_tup {r : Rc} (h : r.isMix) (h1 : r.row) (b : Int) (o : Rc) : (r.put b o).d = .tup (r.parts.map (fun p => .tup [fr p.1, fr p.2.1, (p.2.2.put b o).d])) := by
  rw [mix_d (put_mix h b o), put_parts b o r h1]
section
variable {M : Md}
theorem ix0 {x : D} {r : List D} : idxOp (.tup (x :: r)) (.int 0) = some x := by simp [idxOp, at0]
theorem ix1 {x y : D} {r : List D} : idxOp (.tup (x :: y :: r)) (.int 1) = some y := by simp [idxOp, at1]
theorem ix2 {x y z : D} {r : List D} : idxOp (.tup (x :: y :: z :: r)) (.int 2) = some z := by simp [idxOp, at2]
/-! ### exchanged, put -/
def EX (M : Md) (n : Str) (b : Int) (o : Rc) (L : Nat) (q : Rc) : Prop := ∀ sto, (cfg M L).fns n [q.d, .int b, o.d] sto = some (.ok (.val (q.put b o).d), sto)
theorem ex_all [H_exchanged M] {b : Int} {o : Rc} : ∀ (n : Nat) (r : Rc), r.dep ≤ n → r.ok → ∀ L, r.dep ≤ L → EX M "exchanged" b o (L + 2) r := by
  refine rc_ind (P := fun L r => EX M "exchanged" b o (L + 2) r) ?_ ?_
  · intro L x h0 h7 sto
    have body : exS (cfg M (L + 1)) i_exchanged.body ⟨[.val (.int x), .val (.int b), .val o.d, .no], sto⟩ = okk (.ret (.val (if x = b then o else .bin x).d)) ⟨[.val (.int x), .val (.int b), .val o.d, .no], sto⟩ := by
      refine ex_ret ((ex_iteT (ev_trub (ev_callp (el_one (ev_loc rfl)) (sp_is_int L x sto)))).trans (ex_ret (ex_rete ?_ rfl)))
      by_cases h : x = b
      · rw [if_pos h]
        exact ev_iteT (ev_cmpl (v := .val (.int x)) (d := .int b) (ev_loc rfl) rfl rfl (by show eqO (.int x) (.int b) = _; rw [eq_int, decide_eq_true h])) (ev_loc rfl)
      · rw [if_neg h]
        exact ev_iteF (ev_cmpl (v := .val (.int x)) (d := .int b) (ev_loc rfl) rfl rfl (by show eqO (.int x) (.int b) = _; rw [eq_int, decide_eq_false h])) (ev_loc rfl)
    exact fn_ret (k := L + 1) H_exchanged.tb_exchanged rfl body
  · intro L r hok h1 h2 len ev sto
    have e0 : (cfg M (L + 2)).fns "is_int" [r.d] sto = some (.ok (.val (.bl false)), sto) := by rw [is_tup h2]; exact sp_int_tup _ _ _
    refine fn_ret (k := L + 2) H_exchanged.tb_exchanged rfl (ex_seq (ex_if0 (ev_trub (ev_callp (el_one (ev_loc rfl)) e0))) (ex_ret (ex_rete (ev_blt (el_one (comp_map (g := pt) (xs := r.parts) (fun p => .tup [fr p.1, fr p.2.1, (p.2.2.put b o).d]) (ei_itr (ev_loc rfl) ?_) rfl ?_ ?_)) ?_) rfl)))
    · show items1 r.d = _
      rw [is_tup h2]; rfl
    · rw [parts_len]; omega
    · intro p hp
      refine ⟨[.val r.d, .val (.int b), .val o.d, .val (pt p)], .val (.tup [fr p.1, fr p.2.1, (p.2.2.put b o).d]), rfl, rfl, ?_, rfl⟩
      exact ev_tup (el_three (v := .val (fr p.1)) (u := .val (fr p.2.1)) (t := .val (p.2.2.put b o).d) (ev_idxl rfl rfl ix0) (ev_idxl rfl rfl ix1) (ev_callp (el_three (v := .val p.2.2.d) (u := .val (.int b)) (t := .val o.d) (ev_idxl rfl rfl ix2) (ev_loc rfl) (ev_loc rfl)) (ev p hp sto))) (by simp)
    · show tupleOp [.lst _] = _
      rw [put_tup h2 h1]; rfl
theorem lp_all [H__law_put M] {b : Int} {o : Rc} : ∀ (n : Nat) (r : Rc), r.dep ≤ n → r.ok → ∀ L, r.dep ≤ L → EX M "_law_put" b o (L + 1) r := by
  refine rc_ind (P := fun L r => EX M "_law_put" b o (L + 1) r) ?_ ?_
  · intro L x h0 h7 sto
    have body : exS (cfg M L) i__law_put.body ⟨[.val (.int x), .val (.int b), .val o.d, .no, .no, .no], sto⟩ = okk (.ret (.val (if x = b then o else .bin x).d)) ⟨[.val (.int x), .val (.int b), .val o.d, .no, .no, .no], sto⟩ := by
      refine ex_ret ((ex_iteT (ev_trub (ev_isi (v := .val (.int x)) (ev_loc rfl) rfl))).trans (ex_ret (ex_rete ?_ rfl)))
      by_cases h : x = b
      · rw [if_pos h]
        exact ev_iteT (ev_cmpl (v := .val (.int x)) (d := .int b) (ev_loc rfl) rfl rfl (by show eqO (.int x) (.int b) = _; rw [eq_int, decide_eq_true h])) (ev_loc rfl)
      · rw [if_neg h]
        exact ev_iteF (ev_cmpl (v := .val (.int x)) (d := .int b) (ev_loc rfl) rfl rfl (by show eqO (.int x) (.int b) = _; rw [eq_int, decide_eq_false h])) (ev_loc rfl)
    exact fn_ret (k := L) H__law_put.tb__law_put rfl body
  · intro L r hok h1 h2 len ev sto
    refine fn_ret (k := L + 1) H__law_put.tb__law_put rfl (ex_seq (ex_if0 (ev_trub (ev_isi (ev_loc rfl) ?_))) (ex_ret (ex_rete (ev_blt (el_one (comp_map (g := pt) (xs := r.parts) (fun p => .tup [fr p.1, fr p.2.1, (p.2.2.put b o).d]) (ei_itr (ev_loc rfl) ?_) rfl ?_ ?_)) ?_) rfl)))
    · rw [is_tup h2]; rfl
    · show items1 r.d = _
      rw [is_tup h2]; rfl
    · rw [parts_len]; omega
    · intro p hp
      refine ⟨[.val r.d, .val (.int b), .val o.d, .val (fr p.1), .val (fr p.2.1), .val p.2.2.d], .val (.tup [fr p.1, fr p.2.1, (p.2.2.put b o).d]), rfl, rfl, ?_, rfl⟩
      exact ev_tup (el_three (v := .val (fr p.1)) (u := .val (fr p.2.1)) (t := .val (p.2.2.put b o).d) (ev_loc rfl) (ev_loc rfl) (ev_callp (el_three (v := .val p.2.2.d) (u := .val (.int b)) (t := .val o.d) (ev_loc rfl) (ev_loc rfl) (ev_loc rfl)) (ev p hp sto))) (by simp)
    · show tupleOp [.lst _] = _
      rw [put_tup h2 h1]; rfl
/-- put, by what it is handed -/
theorem put_odd [H_put M] {d x o : D} (hd : pd d = true) (hf : fb 6 d = none) (k : Nat) (sto : List (List D)) : (cfg M (k + 15)).fns "put" [d, x, o] sto = some (.error ⟨"BadRecipe", []⟩, sto) := by
  have e := sp_check (M := M) hd k sto
  rw [hf] at e
  exact fn_err (k := k + 14) H_put.tb_put rfl (ex_err (ex_expx (ev_callx (el_one (ev_loc rfl)) e)))
theorem put_in [H_put M] {r : Rc} (hr : r.good) {x o : D} {b : Bool} (k : Nat) (sto : List (List D)) (hx : pd x = true) (hb : b = true ↔ ∃ i ∈ r.bins, x = .int i) :
    evE (cfg M (k + 14)) (.tor (.tnot (.tru (.call "is_int" (.cons (.loc 1) .nil)))) (.cmp .NotIn (.loc 1) (.call "recipe_bins" (.cons (.loc 0) .nil)))) ⟨[.val r.d, .val x, .val o, .no], sto⟩ = okk (.val (.bl !b)) ⟨[.val r.d, .val x, .val o, .no], sto⟩ := by
  have e1 := sp_isint (M := M) (k + 13) hx sto
  have rb := (rb_both (M := M) r).1 (k + 14) hr.1 hr.2.2.1 (by have := hr.2.2.2; omega) sto
  have t1 := ev_tnot (ev_trub (ev_callp (C := cfg M (k + 14)) (f := "is_int") (el_one (ev_loc (i := 1) (s := ⟨[.val r.d, .val x, .val o, .no], sto⟩) rfl)) e1))
  cases hi : isI x with
  | false =>
    rw [hi] at t1
    have : b = false := by
      cases b with
      | false => rfl
      | true => obtain ⟨i, _, rfl⟩ := hb.mp rfl; cases hi
    rw [this]
    exact ev_torT t1
  | true =>
    rw [hi] at t1
    obtain ⟨i, rfl⟩ := isI_int hi
    refine ev_torF t1 (ev_cmpc (ev_loc rfl) (ev_callp (el_one (ev_loc rfl)) rb) rfl rfl ?_)
    show (inOp (.int i) (.lst (r.bins.map .int))).map _ = _
    rw [in_ints]
    show some (!decide (i ∈ r.bins)) = _
    congr 2
    rw [Bool.eq_iff_iff, decide_eq_true_eq, hb]
    exact ⟨fun h => ⟨i, h, rfl⟩, fun ⟨j, h, e⟩ => by cases e; exact h⟩
theorem put_nobin [H_put M] {r : Rc} (hr : r.good) {x o : D} (hx : pd x = true) (hb : ¬ ∃ i ∈ r.bins, x = .int i) (k : Nat) (sto : List (List D)) : (cfg M (k + 15)).fns "put" [r.d, x, o] sto = some (.error ⟨"NoBin", []⟩, sto) := by
  have e := sp_check (M := M) ((pd_rc r).1 hr.1) k sto
  rw [fb_good hr] at e
  exact fn_err (k := k + 14) H_put.tb_put rfl ((seq_nx (ex_exp (ev_callp (el_one (ev_loc rfl)) e))).trans (ex_err ((ex_iteT (put_in hr (b := false) k sto hx ⟨fun h => absurd h (by decide), fun h => absurd h hb⟩)).trans (ex_err ex_raise))))
theorem put_other [H_put M] {r : Rc} (hr : r.good) {b : Int} {o : D} (hb : b ∈ r.bins) (ho : pd o = true) (hf : fb 6 o = none) (k : Nat) (sto : List (List D)) : (cfg M (k + 15)).fns "put" [r.d, .int b, o] sto = some (.error ⟨"BadRecipe", []⟩, sto) := by
  have e := sp_check (M := M) ((pd_rc r).1 hr.1) k sto
  rw [fb_good hr] at e
  have e2 := sp_check (M := M) ho k sto
  rw [hf] at e2
  have h7 := bins7 hr.1 b hb
  exact fn_err (k := k + 14) H_put.tb_put rfl ((seq_nx (ex_exp (ev_callp (el_one (ev_loc rfl)) e))).trans ((seq_nx (ex_if0 (put_in hr (b := true) k sto (pd_small (by omega) (by omega)) ⟨fun _ => ⟨b, hb, rfl⟩, fun _ => rfl⟩))).trans (ex_err (ex_expx (ev_callx (el_one (ev_loc rfl)) e2)))))
theorem put_good [H_put M] {r o : Rc} (hr : r.good) (ho : o.good) {b : Int} (hb : b ∈ r.bins) (k : Nat) (sto : List (List D)) : (cfg M (k + 15)).fns "put" [r.d, .int b, o.d] sto = if (r.put b o).dep ≤ 6 ∧ (r.put b o).bins.Nodup then some (.ok (.val (r.put b o).d), sto) else some (.error ⟨"BadRecipe", []⟩, sto) := by
  have e := sp_check (M := M) ((pd_rc r).1 hr.1) k sto
  rw [fb_good hr] at e
  have e2 := sp_check (M := M) ((pd_rc o).1 ho.1) k sto
  rw [fb_good ho] at e2
  have h7 := bins7 hr.1 b hb
  have ok := (put_ok b ho.1 r).1 hr.1
  have e3 := sp_check (M := M) ((pd_rc _).1 ok) k sto
  rw [(fb_rc _).1 6 ok] at e3
  have ex := ex_all (M := M) (b := b) (o := o) 6 r hr.2.2.2 hr.1 (k + 12) (by have := hr.2.2.2; omega) sto
  have st : ∀ {fl : Fl} {s}, exS (cfg M (k + 14)) (.seq (.exp (.call "check_recipe" (.cons (.loc 3) .nil))) (.seq (.ret (.loc 3)) .skip)) ⟨[.val r.d, .val (.int b), .val o.d, .val (r.put b o).d], sto⟩ = s → exS (cfg M (k + 14)) i_put.body ⟨[.val r.d, .val (.int b), .val o.d, .no], sto⟩ = s := by
    intro fl s h
    rw [← h]
    refine (seq_nx (ex_exp (ev_callp (el_one (ev_loc rfl)) e))).trans ?_
    refine (seq_nx (ex_if0 (put_in hr (b := true) k sto (pd_small (by omega) (by omega)) ⟨fun _ => ⟨b, hb, rfl⟩, fun _ => rfl⟩))).trans ?_
    refine (seq_nx (ex_exp (ev_callp (el_one (ev_loc rfl)) e2))).trans ?_
    exact seq_nx (ex_set (ev_callp (el_three (ev_loc rfl) (ev_loc rfl) (ev_loc rfl)) ex) (by simp))
  by_cases h : (r.put b o).dep ≤ 6 ∧ (r.put b o).bins.Nodup
  · rw [if_pos h] at e3 ⊢
    exact fn_ret (k := k + 14) H_put.tb_put rfl (st (fl := .nx) (ex_seq (ex_exp (ev_callp (el_one (ev_loc rfl)) e3)) (ex_ret (ex_retl rfl))))
  · rw [if_neg h] at e3 ⊢
    exact fn_err (k := k + 14) H_put.tb_put rfl (st (fl := .nx) (ex_err (ex_expx (ev_callx (el_one (ev_loc rfl)) e3))))
end
end Lib

set_option Elab.async false
set_option linter.all false
set_option maxRecDepth 100000
set_option maxHeartbeats 1000000
namespace Lib
open PySem L2 Pi
/-! ### the hand is made -/
def i_hand (a b : Int) : Fn := ⟨1, 2,
  (.seq (.ret (.cell (.lst (.cons (.comp [1] (.bin .Mod (.blt .int (.cons (.blt .abs (.cons (.blt .int (.cons (.loc 1) .nil)) .nil)) .nil)) (.bin .Pow (.cI 10) (.cI 36))) (.nm 1) (.itr (.slc (.loc 0) .no (.yes (.cI 63)))) (.cB true)) (.cons (.cI 0) (.cons (.cI 0) (.cons (.bin .Add (.cI a) (.bin .Mult (.cI b) (.len (.slc (.loc 0) .no (.yes (.cI 63)))))) (.cons (.cI 0) .nil))))))))
  .skip)⟩
section
variable {M : Md}
theorem ev_cell {C : Cfg} {e : E} {s s1 : Pi.St} {xs : List D} (h : evE C e s = okk (.new xs) s1) (n : isMk xs = none) : evE C (.cell e) s = okk (.val (.ref s1.sto.length)) { s1 with sto := s1.sto ++ [xs] } := by
  show bnd (evE C e s) _ = _
  rw [h]
  exact if_pos n
theorem sp_hand {a b : Int} (ht : tbl M.tb "_law_hand" = some (i_hand a b)) (a0 : 0 ≤ a) (a1 : a ≤ 1000000) (b0 : 0 ≤ b) (b1 : b ≤ 1000000) {ms : List (List D)} {k : Nat} {ns : List Int} : ∃ sto, (cfg M (k + 1)).fns "_law_hand" [.scr (ns.map .int)] ms = some (.ok (.val (.ref ms.length)), sto) ∧ Hk ms 0 sto := by
  obtain ⟨cl, ecl⟩ : ∃ cl, cl = cut (ns.map D.int) none (some 63) := ⟨_, rfl⟩
  obtain ⟨cn, ecn⟩ : ∃ cn : List Int, cl = cn.map D.int := by
    refine ⟨cut ns none (some 63), ?_⟩
    rw [ecl]
    unfold cut
    rw [List.length_map, List.map_take, List.map_drop]
  have lcl : cn.length ≤ 63 := by
    have : cl.length ≤ 63 := by
      rw [ecl]
      show (((ns.map D.int).drop 0).take (min 63 (ns.map D.int).length - 0)).length ≤ 63
      rw [List.length_take]
      omega
    rw [ecn, List.length_map] at this
    exact this
  have big : (1000 : Nat) ≤ szL := by decide
  have m36 := fun i : Int => mod_pos (i := i) (j := 1000000000000000000000000000000000000) (by omega)
  obtain ⟨f, ef⟩ : ∃ f : D → D, f = fun x => match x with | .int i => .int ((if i < 0 then -i else i) % 1000000000000000000000000000000000000) | d => d := ⟨_, rfl⟩
  have c := comp_pure (C := cfg M k) (vs := [1]) (t := .nm 1) (e := .bin .Mod (.blt .int (.cons (.blt .abs (.cons (.blt .int (.cons (.loc 1) .nil)) .nil)) .nil)) (.bin .Pow (.cI 10) (.cI 36))) (src := .itr (.slc (.loc 0) .no (.yes (.cI 63)))) (s := ⟨[.val (.scr (ns.map .int)), .no], ms⟩) (s1 := ⟨[.val (.scr (ns.map .int)), .no], ms⟩) (items := cl) f (by
    simp [evI, evE, evO, Sl.at, brw, Opd.get, slcOp, ← ecl, items1]) rfl (by rw [ecn, List.length_map]; omega) (by
    intro x hx
    rw [ecn] at hx
    obtain ⟨i, hi, rfl⟩ := List.mem_map.mp hx
    refine ⟨[.val (.scr (ns.map .int)), .val (.int i)], .val (.int ((if i < 0 then -i else i) % 1000000000000000000000000000000000000)), rfl, rfl, ?_, (by rw [ef]; rfl)⟩
    have ab : absOp [.int i] = some (.val (.int (if i < 0 then -i else i))) := rfl
    simp [evE, evL, Sl.at, int_int, ab, pow36, m36])
  have cm : cl.map f = (cn.map fun i => (if i < 0 then -i else i) % 1000000000000000000000000000000000000).map D.int := by
    rw [ecn, List.map_map, List.map_map, ef]; rfl
  rw [cm] at c
  obtain ⟨cells, ecells⟩ : ∃ cells : List Int, cells = cn.map fun i => (if i < 0 then -i else i) % 1000000000000000000000000000000000000 := ⟨_, rfl⟩
  rw [← ecells] at c
  have ln : ((cl.length : Nat) : Int) ≤ 63 := by rw [ecn, List.length_map]; omega
  obtain ⟨n, en⟩ : ∃ n : Int, n = ((cl.length : Nat) : Int) := ⟨_, rfl⟩
  have n0 : 0 ≤ n := by omega
  rw [← en] at ln
  have p0 : 0 ≤ b * n := Int.mul_nonneg b0 n0
  have p1 : b * n ≤ 1000000 * 63 := Int.mul_le_mul b1 ln n0 (by omega)
  have k11 : mulOp (.int b) (.int n) = some (.val (.int (b * n))) := mul_sm (sm_small (by omega) (by omega)) (sm_small (by omega) (by omega))
  refine ⟨hd ms cells 0 0 (a + b * n) 0, ?_, cells, 0, 0, _, 0, rfl, ⟨?_, by omega, by omega, by decide, by omega, by omega, by omega, by omega⟩⟩
  · have sl : slcOp (.scr (ns.map D.int)) none (some 63) = some (.new cl) := by rw [ecl]; rfl
    have ln2 : evE (cfg M k) (.len (.slc (.loc 0) .no (.yes (.cI 63)))) ⟨[.val (.scr (ns.map .int)), .no], ms⟩ = okk (.val (.int n)) ⟨[.val (.scr (ns.map .int)), .no], ms⟩ :=
      ev_len (d := .lst cl) (br_ex (v := .new cl) (ev_slc (s2 := ⟨[.val (.scr (ns.map .int)), .no], ms⟩) (s4 := ⟨[], []⟩) (br_loc rfl) eo_no (eo_yes ev_cI) (get_val rfl) sl) rfl) (get_val rfl) (by rw [en]; rfl)
    exact fn_ret ht rfl (ex_ret (ex_rete (ev_cell (ev_lst (el_cons c (el_cons ev_cI (el_cons ev_cI (el_cons (ev_bin (o := .Add) ev_cI (ev_bin (o := .Mult) (v := .val (.int b)) ev_cI ln2 k11) rfl) (el_cons ev_cI el_nil))))) (by simp)) rfl) rfl))
  · intro x hx
    rw [ecells] at hx
    obtain ⟨i, hi, rfl⟩ := List.mem_map.mp hx
    refine ⟨Int.emod_nonneg _ (by omega), ?_⟩
    have := Int.emod_lt_of_pos (if i < 0 then -i else i) (show (0 : Int) < 1000000000000000000000000000000000000 by omega)
    omega
/-! ### odd things -/
def d0 : D := .tup [.int 0, .int 1]
def d1 : D := .tup [.int 1, .int 1]
def dq (a b : Int) : D := .tup [.int a, .int b]
def odds : List D := [.non, .int (-1), .int 8, .bl true, .str "0", .tup [], .tup [.tup [d0, d1]], .tup [.tup [d1, d0, .int 0]], .tup [.tup [d0, d1, .int 0], .tup [d0, d1, .int 0]],
  .lst [.tup [d0, d1, .int 0]], .tup [.tup [d0, dq 1 2, .int 0], .tup [d0, dq 1 3, .int 1]], .tup [.tup [d0, d1, .int 9]],
  .tup [.tup [d1, d1, .int 0], .tup [dq 1 1001, d1, .int 1]], .tup [.tup [dq 0 2, d1, .int 0]], .tup [.tup [dq 1 2, dq 3 2, .int 0]], .tup [.tup [d0, d1, .tup []]]]
theorem odds_ok : ∀ x ∈ odds, pd x = true ∧ fb 6 x = none := by
  have h : (odds.all fun x => pd x && (fb 6 x).isNone) = true := by decide +kernel
  intro x hx
  have := List.all_eq_true.mp h x hx
  simp only [Bool.and_eq_true, Option.isNone_iff_eq_none] at this
  exact this
theorem sp_odd [H__law_odd M] [H__law_drawn M] {ms : List (List D)} {k m : Nat} {sto : List (List D)} (hk : Hk ms m sto) (hm : m < 2 ^ 100) : ∃ x sto', (cfg M (k + 3)).fns "_law_odd" [.ref ms.length] sto = some (.ok (.val x), sto') ∧ pd x = true ∧ fb 6 x = none ∧ Hk ms (m + 1) sto' := by
  obtain ⟨x, sto', e, hx, hk'⟩ := sp_any (M := M) (k := k) hk hm (xs := odds) (by decide) (by decide)
  refine ⟨x, sto', ?_, (odds_ok x hx).1, (odds_ok x hx).2, hk'⟩
  rw [fns_at H__law_odd.tb__law_odd, run1 rfl]
  have st : ∀ s, exS (cfg M (k + 2)) i__law_odd.body ⟨[.val (.ref ms.length), .no, .no, .no], sto⟩ = s ↔ exS (cfg M (k + 2)) (.seq (.ret (.call "_law_any" (.cons (.loc 0) (.cons (.loc 3) .nil)))) .skip) ⟨[.val (.ref ms.length), .val d0, .val d1, .own odds], sto⟩ = s := fun s => Iff.rfl
  have : exS (cfg M (k + 2)) i__law_odd.body ⟨[.val (.ref ms.length), .no, .no, .no], sto⟩ = okk (.ret (.val x)) ⟨[.val (.ref ms.length), .val d0, .val d1, .val (.lst odds)], sto'⟩ := by
    rw [st]
    exact ex_ret (ex_rete (ev_call (s1 := ⟨[.val (.ref ms.length), .val d0, .val d1, .val (.lst odds)], sto⟩) (el_two (v := .val (.ref ms.length)) (u := .val (.lst odds)) (ev_loc rfl) (ev_own rfl)) e) rfl)
  show outF (exS (cfg M (k + 2)) i__law_odd.body ⟨[.val (.ref ms.length), .no, .no, .no], sto⟩) = _
  rw [this]; rfl
end
end Lib

set_option Elab.async false
set_option linter.all false
set_option maxRecDepth 100000
set_option maxHeartbeats 1000000
namespace Lib
open PySem L2 Pi
/-! ### put: how deep, how many bins -/
theorem put_dep (b : Int) (o : Rc) : ∀ r : Rc, (r.put b o).dep ≤ r.dep + o.dep
  | .bin x => by
    show (if x = b then o else .bin x).dep ≤ _
    split
    · exact Nat.le_add_left _ _
    · exact Nat.zero_le _
  | .nil => Nat.zero_le _
  | .cons lo hi q rest => by
    have h1 := put_dep b o q
    have h2 := put_dep b o rest
    show max ((q.put b o).dep + 1) (rest.put b o).dep ≤ max (q.dep + 1) rest.dep + o.dep
    have h3 := Nat.le_max_left (q.dep + 1) rest.dep
    have h4 := Nat.le_max_right (q.dep + 1) rest.dep
    exact Nat.max_le.mpr ⟨by omega, by omega⟩
theorem put_bins (b : Int) (o : Rc) (h : 1 ≤ o.bins.length) : ∀ r : Rc, (r.put b o).bins.length ≤ r.bins.length * o.bins.length
  | .bin x => by
    show (if x = b then o else .bin x).bins.length ≤ 1 * _
    split
    · omega
    · show 1 ≤ _; omega
  | .nil => Nat.zero_le _
  | .cons lo hi q rest => by
    have h1 := put_bins b o h q
    have h2 := put_bins b o h rest
    show ((q.put b o).bins ++ (rest.put b o).bins).length ≤ (q.bins ++ rest.bins).length * _
    rw [List.length_append, List.length_append, Nat.add_mul]
    omega
/-! ### unlike ones -/
theorem met_len : ∀ (l acc : List Int), (met acc l).length ≤ acc.length + l.length ∧ ((met acc l).length = acc.length + l.length ↔ l.Nodup ∧ ∀ x ∈ l, x ∉ acc)
  | [], acc => ⟨Nat.le_refl _, by simp [met]⟩
  | x :: l, acc => by
    have e : met acc (x :: l) = met (if acc.any (· == x) then acc else acc ++ [x]) l := rfl
    have ha : acc.any (· == x) = true ↔ x ∈ acc := by simp
    by_cases h : x ∈ acc
    · rw [e, if_pos (ha.mpr h)]
      have i := (met_len l acc).1
      refine ⟨by rw [List.length_cons]; omega, ⟨fun z => ?_, fun ⟨_, z⟩ => absurd h (z x List.mem_cons_self)⟩⟩
      rw [List.length_cons] at z
      omega
    · rw [e, if_neg (fun z => h (ha.mp z))]
      obtain ⟨i, j⟩ := met_len l (acc ++ [x])
      rw [List.length_append, List.length_singleton] at i j
      refine ⟨by rw [List.length_cons]; omega, ?_⟩
      rw [List.length_cons, show acc.length + (l.length + 1) = acc.length + 1 + l.length by omega, j, List.nodup_cons]
      constructor
      · rintro ⟨nd, z⟩
        refine ⟨⟨fun hx => z x hx (by simp), nd⟩, fun y hy => ?_⟩
        rcases List.mem_cons.mp hy with rfl | hy
        · exact h
        · exact fun hz => z y hy (by simp [hz])
      · rintro ⟨⟨z1, z2⟩, z3⟩
        refine ⟨z2, fun y hy hz => ?_⟩
        rcases List.mem_append.mp hz with hz | hz
        · exact z3 y (List.mem_cons_of_mem _ hy) hz
        · rw [List.mem_singleton] at hz
          exact z1 (hz ▸ hy)
theorem lset_ints {l : List Int} (h : l.length ≤ 4000) : ∃ n : Nat, lsetOp (.lst (l.map .int)) = some (.val (.int n)) ∧ (n = l.length ↔ l.Nodup) := by
  refine ⟨(met [] l).length, ?_, ?_⟩
  · show (allInts _).bind _ = _
    rw [allInts_int]
    exact if_pos h
  · have := (met_len l []).2
    rw [List.length_nil, Nat.zero_add] at this
    rw [this]
    exact ⟨fun z => z.1, fun z => ⟨z, fun _ _ h => nomatch h⟩⟩
/-! ### the hand's calls within a frame -/
section
variable {M : Md} {ms : List (List D)} [H__law_drawn M] {k m i : Nat} {env env1 : List Sl} {sto sto1 : List (List D)} {a : E}
theorem c_draw {many : Int} (hh : Sl.at env i = .val (.ref ms.length)) (ha : evE (cfg M (k + 1)) a ⟨env, sto⟩ = okk (.val (.int many)) ⟨env1, sto1⟩) (hk : Hk ms m sto1) (hm : m < 2 ^ 100) (h0 : 0 < many) (h1 : many < 2 ^ 62) :
    ∃ v sto2, evE (cfg M (k + 1)) (.call "_law_draw" (.cons (.loc i) (.cons a .nil))) ⟨env, sto⟩ = okk (.val (.int v)) ⟨env1, sto2⟩ ∧ 0 ≤ v ∧ v < many ∧ Hk ms (m + 1) sto2 := by
  obtain ⟨v, sto2, e, v0, v1, h'⟩ := sp_draw (M := M) (k := k) hk hm h0 h1
  exact ⟨v, sto2, ev_call (el_two (v := .val (.ref ms.length)) (u := .val (.int many)) (ev_loc hh) ha) e, v0, v1, h'⟩
theorem c_any {v : Rv} {xs : List D} (hh : Sl.at env i = .val (.ref ms.length)) (ha : evE (cfg M (k + 2)) a ⟨env, sto⟩ = okk v ⟨env1, sto1⟩) (hv : v.d = .lst xs) (hk : Hk ms m sto1) (hm : m < 2 ^ 100) (h0 : xs ≠ []) (h1 : xs.length < 2 ^ 62) :
    ∃ x sto2, evE (cfg M (k + 2)) (.call "_law_any" (.cons (.loc i) (.cons a .nil))) ⟨env, sto⟩ = okk (.val x) ⟨env1, sto2⟩ ∧ x ∈ xs ∧ Hk ms (m + 1) sto2 := by
  obtain ⟨x, sto2, e, hx, h'⟩ := sp_any (M := M) (k := k) hk hm h0 h1
  have l := el_two (v := .val (.ref ms.length)) (u := v) (ev_loc hh) ha
  rw [hv] at l
  exact ⟨x, sto2, ev_call l e, hx, h'⟩
theorem c_drawn {d : Nat} {many : Nat} {b : E} (hh : Sl.at env i = .val (.ref ms.length)) (hb : evE (cfg M (k + 10)) b ⟨env, sto⟩ = okk (.val (.int d)) ⟨env, sto⟩) (ha : evE (cfg M (k + 10)) a ⟨env, sto⟩ = okk (.val (.int many)) ⟨env1, sto1⟩) (hk : Hk ms m sto1) (hm : m + 100 + costR 5 < 2 ^ 100) (d1 : 1 ≤ d) (d5 : d ≤ 5) (m1 : 1 ≤ many) (m8 : many ≤ 8) :
    ∃ (r : Rc) (sto2 : List (List D)), evE (cfg M (k + 10)) (.call "_law_drawn" (.cons (.loc i) (.cons b (.cons a .nil)))) ⟨env, sto⟩ = okk (.val r.d) ⟨env1, sto2⟩ ∧ r.ok ∧ r.bins.Nodup ∧ r.bins.length ≤ 8 ∧ r.dep ≤ d ∧ Hk ms (m + 100 + costR 5) sto2 := by
  obtain ⟨r, sto2, e, h1, h2, h3, h4, h5⟩ := sp_drawn (M := M) (k := k) hk d1 d5 m1 m8 hm
  exact ⟨r, sto2, ev_call (el_three (v := .val (.ref ms.length)) (u := .val (.int d)) (t := .val (.int many)) (ev_loc hh) hb ha) e, h1, h2, h3, h4, h5⟩
end
theorem hk_mk {x : Str} {m : Nat} {sto : List (List D)} (h : Hk [mk x] m sto) : (sto[0]?).bind isMk = some x := by
  obtain ⟨c, i, u, s, n, rfl, _⟩ := h
  rfl
theorem costR5 : costR 5 ≤ 100000 := by decide
end Lib

set_option Elab.async false
set_option linter.all false
set_option maxRecDepth 100000
set_option maxHeartbeats 1000000
namespace Lib
open PySem L2 Pi
theorem toPs_ints : ∀ l : List Int, toPs (l.map .int) = some (l.map PyData.int)
  | [] => rfl
  | i :: l => by
    show (toP (.int i)).bind (fun a => (toPs (l.map D.int)).map fun r => a :: r) = _
    rw [toPs_ints l]; rfl
theorem shaped_ints (l : List Int) : SeqAt.shaped (.list (l.map .int)) = true := by
  have h1 : ∀ l : List Int, PyData.canLayAll0 (l.map PyData.int) = true := by
    intro l
    induction l with
    | nil => rfl
    | cons i l ih => show (true && PyData.canLayAll0 (l.map PyData.int)) = true; rw [ih]; rfl
  have h2 : ∀ l : List Int, PyData.depthAll (l.map PyData.int) = 0 := by
    intro l
    induction l with
    | nil => rfl
    | cons i l ih => show max 0 (PyData.depthAll (l.map PyData.int)) = 0; rw [ih]; rfl
  show (PyData.canLayAll0 (l.map PyData.int) && decide (PyData.depthAll (l.map PyData.int) + 1 ≤ 64)) = true
  rw [h1, h2]; rfl
theorem eqv_ints : ∀ l m : List Int, PyData.eqvAll (l.map .int) (m.map .int) = decide (l = m)
  | [], [] => rfl
  | [], _ :: _ => rfl
  | _ :: _, [] => rfl
  | i :: l, j :: m => by
    show ((i == j) && PyData.eqvAll (l.map .int) (m.map .int)) = _
    rw [eqv_ints l m, Bool.eq_iff_iff]
    simp
theorem eq_ints2 (l m : List Int) : eqO (.lst (l.map .int)) (.lst (m.map .int)) = some (decide (l = m)) := by
  show eqP _ _ = _
  show ((toPs (l.map .int)).map PyData.list).bind (fun p => ((toPs (m.map .int)).map PyData.list).bind fun q => gd (SeqAt.shaped p = true ∧ SeqAt.shaped q = true) (some (PyData.eqv p q))) = _
  rw [toPs_ints, toPs_ints]
  show gd (SeqAt.shaped (.list (l.map .int)) = true ∧ SeqAt.shaped (.list (m.map .int)) = true) (some (PyData.eqvAll (l.map .int) (m.map .int))) = _
  rw [eqv_ints]
  exact if_pos ⟨shaped_ints l, shaped_ints m⟩
/-- a loop whose turns keep what is known of the state -/
theorem for_inv {t : T} {C : Cfg} {A : S} (I : Nat → Pi.St → Prop) : ∀ (items : List D) (n : Nat) (s : Pi.St), (∀ m x s, n ≤ m → m < n + items.length → I m s → ∃ env s', bindT t x s.env = some env ∧ exS C A { s with env := env } = okk .nx s' ∧ I (m + 1) s') → I n s → ∃ s', forGo t (exS C A) items s = okk .nx s' ∧ I (n + items.length) s'
  | [], n, s, _, h => ⟨s, rfl, h⟩
  | x :: r, n, s, step, h => by
    obtain ⟨env, s1, b1, b2, h1⟩ := step n x s (Nat.le_refl _) (by rw [List.length_cons]; omega) h
    obtain ⟨s2, e, h2⟩ := for_inv I r (n + 1) s1 (fun m x s hm hm2 => step m x s (by omega) (by rw [List.length_cons]; omega)) h1
    refine ⟨s2, ?_, by rw [List.length_cons, show n + (r.length + 1) = n + 1 + r.length by omega]; exact h2⟩
    rw [forGo_cons, b1]
    simp only [b2, okk]
    exact e
/-- bins that a recipe has not -/
def rest8 (r : Rc) : List Int := ((List.range 8).filter fun (i : Nat) => !decide ((i : Int) ∈ r.bins)).map fun (i : Nat) => (i : Int)
theorem rest8_mem {r : Rc} {i : Int} (h : i ∈ rest8 r) : 0 ≤ i ∧ i ≤ 7 ∧ i ∉ r.bins := by
  obtain ⟨n, hn, rfl⟩ := List.mem_map.mp h
  have := List.mem_filter.mp hn
  have h1 := List.mem_range.mp this.1
  have h2 := this.2
  simp at h2
  exact ⟨by omega, by omega, h2⟩
theorem rest8_len (r : Rc) : (rest8 r).length ≤ 8 := by
  unfold rest8
  rw [List.length_map]
  exact Nat.le_trans (List.length_filter_le _ _) (by simp)
end Lib

set_option Elab.async false
set_option linter.all false
set_option maxRecDepth 100000
set_option maxHeartbeats 1000000
namespace Lib
open PySem L2 Pi
/-! ### shapes of level papers -/
def isTup : D → Bool
  | .tup _ => true | _ => false
def shp2 : Rc → (D → Bool) × (List D → Bool)
  | .bin _ => (isNon, fun _ => false)
  | .nil => (fun _ => false, fun ds => ds.isEmpty)
  | .cons _ _ q rest => (fun d => match d with
      | .tup [l, .tup (x :: ds)] => isF l && ((shp2 q).1 x && (shp2 rest).2 ds)
      | _ => false, fun ds => match ds with
      | x :: ds => (shp2 q).1 x && (shp2 rest).2 ds
      | [] => false)
def shp (r : Rc) (d : D) : Bool := (shp2 r).1 d
def shps (r : Rc) (ds : List D) : Bool := (shp2 r).2 ds
theorem shp_mix {r : Rc} (h : r.isMix) (l : D) (ds : List D) : shp r (.tup [l, .tup ds]) = (isF l && shps r ds) := by
  cases r with
  | cons lo hi q rest =>
    cases ds with
    | nil => show false = (isF l && false); rw [Bool.and_false]
    | cons x ds => rfl
  | _ => exact h.elim
theorem shp_no {r : Rc} (h : r.isMix) (d : D) (hd : ∀ l ds, d ≠ .tup [l, .tup ds]) : shp r d = false := by
  cases r with
  | cons lo hi q rest =>
    unfold shp shp2
    dsimp only
    split
    · exact absurd rfl (hd _ _)
    · rfl
  | _ => exact h.elim
theorem shps_len : ∀ (r : Rc) (ds : List D), shps r ds = true → ds.length = r.parts.length
  | .bin _, _, h => nomatch h
  | .nil, [], _ => rfl
  | .nil, _ :: _, h => nomatch h
  | .cons lo hi q rest, [], h => nomatch h
  | .cons lo hi q rest, x :: ds, h => by
    have h2 : ((shp2 q).1 x && (shp2 rest).2 ds) = true := h
    have := shps_len rest ds (Bool.and_eq_true_iff.mp h2).2
    show (x :: ds).length = (_ :: rest.parts).length
    rw [List.length_cons, List.length_cons, this]
theorem shps_zip : ∀ (r : Rc) (ds : List D), r.row → ds.length = r.parts.length → shps r ds = (r.parts.zip ds).all fun p => shp p.1.2.2 p.2
  | .bin _, _, h, _ => h.elim
  | .nil, [], _, _ => rfl
  | .nil, _ :: _, _, h => nomatch h
  | .cons lo hi q rest, [], _, h => nomatch h
  | .cons lo hi q rest, x :: ds, h, hl => by
    show (shp q x && shps rest ds) = (shp q x && (rest.parts.zip ds).all fun p => shp p.1.2.2 p.2)
    rw [shps_zip rest ds h.2.2.2.2 (by
      have : (x :: ds).length = (_ :: rest.parts).length := hl
      simpa using this)]
theorem shp_of {r : Rc} (h : r.isMix) {d : D} (hs : shp r d = true) : ∃ q ds, d = .tup [fr q, .tup ds] ∧ shps r ds = true := by
  by_cases hd : ∃ l ds, d = .tup [l, .tup ds]
  · obtain ⟨l, ds, rfl⟩ := hd
    rw [shp_mix h, Bool.and_eq_true] at hs
    obtain ⟨q, rfl⟩ := fr_of hs.1
    exact ⟨q, ds, rfl, hs.2⟩
  · rw [shp_no h d fun l ds e => hd ⟨l, ds, e⟩] at hs; cases hs
theorem all_bls : ∀ (l : List Bool), allBls (l.map .bl) = some l
  | [] => rfl
  | b :: l => by
    show (allBls (l.map D.bl)).map _ = _
    rw [all_bls l]; rfl
theorem zip_map_l {α β γ : Type} (f : α → γ) : ∀ (xs : List α) (ys : List β), (xs.map f).zip ys = (xs.zip ys).map fun p => (f p.1, p.2)
  | [], _ => rfl
  | _ :: _, [] => rfl
  | x :: xs, y :: ys => by
    show (f x, y) :: (xs.map f).zip ys = (f x, y) :: _
    rw [zip_map_l f xs ys]; rfl
theorem eq_nat (a b : Nat) : eqO (.int (a : Int)) (.int (b : Int)) = some (decide (a = b)) := by
  rw [eq_int]
  congr 1
  rw [decide_eq_decide]; omega
theorem ne_nat (a b : Nat) : cmpOp .NotEq (.int (a : Int)) (.int (b : Int)) = some (!decide (a = b)) := by
  show (eqO (.int (a : Int)) (.int (b : Int))).map _ = _
  rw [eq_nat]; rfl
theorem ne_ints (a b : Int) : cmpOp .NotEq (.int a) (.int b) = some (!decide (a = b)) := by
  show (eqO (.int a) (.int b)).map _ = _
  rw [eq_int]; rfl
theorem ty_tup (d : D) (h : pd d = true) : isTy d .tuple = some (isTup d) := by cases d <;> first | rfl | cases h
theorem ref_pd {d : D} (h : pd d = true) : isRef d = false := by cases d <;> first | rfl | cases h
theorem is_tupD {d : D} (h : isTup d = true) : ∃ xs, d = .tup xs := by cases d <;> first | exact ⟨_, rfl⟩ | cases h
section
variable {M : Md}
def PO (M : Md) (n : Str) (L : Nat) (r : Rc) : Prop := ∀ d sto, pd d = true → (cfg M L).fns n [r.d, d] sto = some (.ok (.val (.bl (shp r d))), sto)
theorem po_all [H_is_paper_of M] : ∀ (n : Nat) (r : Rc), r.dep ≤ n → r.ok → ∀ L, r.dep ≤ L → PO M "is_paper_of" (L + 3) r := by
  refine rc_ind (P := fun L r => PO M "is_paper_of" (L + 3) r) ?_ ?_
  · intro L b h0 h7 d sto hd
    exact fn_ret (k := L + 2) (env1 := [.val (.int b), .val d, .no, .no]) H_is_paper_of.tb_is_paper_of rfl (ex_ret ((ex_iteT (ev_trub (ev_callp (el_one (v := .val (.int b)) (ev_loc rfl)) (sp_is_int (L + 1) b sto)))).trans (ex_ret (ex_rete (v := .val (.bl (isNon d))) (ev_isN (v := .val d) (ev_loc rfl)) rfl))))
  · intro L r hok h1 h2 len ev d sto hd
    have e0 : (cfg M (L + 3)).fns "is_int" [r.d] sto = some (.ok (.val (.bl false)), sto) := by rw [is_tup h2]; exact sp_int_tup _ _ _
    have s1 := ex_if0 (C := cfg M (L + 3)) (A := .seq (.ret (.isN (.loc 1))) .skip) (ev_trub (ev_callp (f := "is_int") (s1 := ⟨[.val r.d, .val d, .no, .no], sto⟩) (el_one (v := .val r.d) (ev_loc (i := 0) rfl)) e0))
    have fin : ∀ {b : Bool} {env1}, exS (cfg M (L + 3)) i_is_paper_of.body ⟨[.val r.d, .val d, .no, .no], sto⟩ = okk (.ret (.val (.bl b))) ⟨env1, sto⟩ → (cfg M (L + 4)).fns "is_paper_of" [r.d, d] sto = some (.ok (.val (.bl b)), sto) := fun h => fn_ret (k := L + 3) H_is_paper_of.tb_is_paper_of rfl h
    have t1 : evE (cfg M (L + 3)) (.tnot (.tru (.isi (.loc 1) .tuple))) ⟨[.val r.d, .val d, .no, .no], sto⟩ = okk (.val (.bl !isTup d)) ⟨[.val r.d, .val d, .no, .no], sto⟩ := ev_tnot (ev_trub (ev_isi (v := .val d) (ev_loc rfl) (ty_tup d hd)))
    have no : ∀ {c : E} {B : S}, evE (cfg M (L + 3)) c ⟨[.val r.d, .val d, .no, .no], sto⟩ = okk (.val (.bl true)) ⟨[.val r.d, .val d, .no, .no], sto⟩ → exS (cfg M (L + 3)) (.seq (.ite c (.seq (.ret (.cB false)) .skip) .skip) B) ⟨[.val r.d, .val d, .no, .no], sto⟩ = okk (.ret (.val (.bl false))) ⟨[.val r.d, .val d, .no, .no], sto⟩ := fun h => ex_ret ((ex_iteT h).trans (ex_ret (ex_rete ev_cB rfl)))
    cases ht : isTup d with
    | false =>
      rw [shp_no h2 d (by rintro l ds rfl; cases ht)]
      rw [ht] at t1
      exact fin ((seq_nx s1).trans (no (ev_torT t1)))
    | true =>
      obtain ⟨xs, rfl⟩ := is_tupD ht
      rw [ht] at t1
      have t2 : evE (cfg M (L + 3)) (.cmp .NotEq (.len (.loc 1)) (.cI 2)) ⟨[.val r.d, .val (.tup xs), .no, .no], sto⟩ = okk (.val (.bl !decide (xs.length = 2))) ⟨[.val r.d, .val (.tup xs), .no, .no], sto⟩ := ev_cmpc (v := .val (.int (xs.length : Nat))) (u := .val (.int ((2 : Nat) : Int))) (ev_len (d := .tup xs) (br_loc rfl) rfl rfl) ev_cI rfl rfl (ne_nat _ _)
      by_cases h2l : xs.length = 2
      · match xs, h2l with
        | [l, b], _ =>
          have hd2 : (pd l && (pd b && true)) = true := hd
          rw [Bool.and_true, Bool.and_eq_true] at hd2
          have f1 := sp_isfrac (M := M) (L + 1) hd2.1 sto
          have t3 : evE (cfg M (L + 3)) (.tnot (.tru (.call "is_fraction" (.cons (.idx (.loc 1) (.cI 0)) .nil)))) ⟨[.val r.d, .val (.tup [l, b]), .no, .no], sto⟩ = okk (.val (.bl !isF l)) ⟨[.val r.d, .val (.tup [l, b]), .no, .no], sto⟩ := ev_tnot (ev_trub (ev_callp (el_one (v := .val l) (ev_idxl rfl rfl ix0)) f1))
          have t4 : evE (cfg M (L + 3)) (.tor (.tnot (.tru (.isi (.loc 1) .tuple))) (.tor (.cmp .NotEq (.len (.loc 1)) (.cI 2)) (.tnot (.tru (.call "is_fraction" (.cons (.idx (.loc 1) (.cI 0)) .nil)))))) ⟨[.val r.d, .val (.tup [l, b]), .no, .no], sto⟩ = okk (.val (.bl !isF l)) ⟨[.val r.d, .val (.tup [l, b]), .no, .no], sto⟩ := ev_torF t1 (ev_torF t2 t3)
          cases hf : isF l with
          | false =>
            rw [hf] at t4
            rw [show shp r (.tup [l, b]) = false from by
              by_cases hb : ∃ ds, b = .tup ds
              · obtain ⟨ds, rfl⟩ := hb
                rw [shp_mix h2, hf]; rfl
              · exact shp_no h2 _ (by rintro l' ds e; cases e; exact hb ⟨ds, rfl⟩)]
            exact fin ((seq_nx s1).trans (no t4))
          | true =>
            rw [hf] at t4
            have s2 := ex_if0 (A := .seq (.ret (.cB false)) .skip) t4
            have t5 : evE (cfg M (L + 3)) (.tnot (.tru (.isi (.idx (.loc 1) (.cI 1)) .tuple))) ⟨[.val r.d, .val (.tup [l, b]), .no, .no], sto⟩ = okk (.val (.bl !isTup b)) ⟨[.val r.d, .val (.tup [l, b]), .no, .no], sto⟩ := ev_tnot (ev_trub (ev_isi (v := .val b) (ev_idxl rfl rfl ix1) (ty_tup b hd2.2)))
            cases hb : isTup b with
            | false =>
              rw [hb] at t5
              rw [shp_no h2 _ (by rintro l' ds e; cases e; cases hb)]
              exact fin ((seq_nx s1).trans ((seq_nx s2).trans (no (ev_torT t5))))
            | true =>
              obtain ⟨ds, rfl⟩ := is_tupD hb
              rw [hb] at t5
              rw [shp_mix h2, hf, Bool.true_and]
              have ln : evE (cfg M (L + 3)) (.len (.loc 0)) ⟨[.val r.d, .val (.tup [l, .tup ds]), .no, .no], sto⟩ = okk (.val (.int (r.parts.length : Nat))) ⟨[.val r.d, .val (.tup [l, .tup ds]), .no, .no], sto⟩ := ev_len (d := r.d) (br_loc rfl) (by rw [is_tup h2]; rfl) (by rw [is_tup h2]; show some (Rv.val (.int ((r.parts.map pt).length : Nat))) = _; rw [List.length_map])
              have t6 : evE (cfg M (L + 3)) (.cmp .NotEq (.len (.idx (.loc 1) (.cI 1))) (.len (.loc 0))) ⟨[.val r.d, .val (.tup [l, .tup ds]), .no, .no], sto⟩ = okk (.val (.bl !decide (ds.length = r.parts.length))) ⟨[.val r.d, .val (.tup [l, .tup ds]), .no, .no], sto⟩ := ev_cmpc (v := .val (.int (ds.length : Nat))) (ev_len (d := .tup ds) (br_ex (v := .val (.tup ds)) (ev_idxl rfl rfl ix1) rfl) rfl rfl) ln rfl rfl (ne_nat _ _)
              by_cases hl : ds.length = r.parts.length
              · rw [decide_eq_true hl] at t6
                have s3 := ex_if0 (A := .seq (.ret (.cB false)) .skip) (ev_torF t5 t6)
                have zp : zipD r.d (.tup ds) = some ((r.parts.zip ds).map fun p => .tup [pt p.1, p.2]) := by
                  rw [is_tup h2]
                  show some (((r.parts.map pt).zip ds).map _) = _
                  rw [zip_map_l, List.map_map]; rfl
                have cm := comp_map (C := cfg M (L + 3)) (vs := [2, 3]) (t := .cons (.nm 2) (.cons (.nm 3) .nil)) (e := c_is_paper_of_1) (src := .zip2 (.loc 0) (.idx (.loc 1) (.cI 1))) (s := ⟨[.val r.d, .val (.tup [l, .tup ds]), .no, .no], sto⟩) (s1 := ⟨[.val r.d, .val (.tup [l, .tup ds]), .no, .no], sto⟩) (xs := r.parts.zip ds) (g := fun p => .tup [pt p.1, p.2]) (fun p => .bl (shp p.1.2.2 p.2)) (ei_zip (v := .val r.d) (u := .val (.tup ds)) (ev_loc rfl) (ev_idxl rfl rfl ix1) zp) rfl (by rw [List.length_zip, parts_len]; omega) (by
                  intro p hp
                  have hp1 := List.of_mem_zip hp
                  refine ⟨[.val r.d, .val (.tup [l, .tup ds]), .val (pt p.1), .val p.2], .val (.bl (shp p.1.2.2 p.2)), rfl, rfl, ?_, rfl⟩
                  exact ev_callp (el_two (v := .val p.1.2.2.d) (u := .val p.2) (ev_idxl (d := pt p.1) rfl rfl ix2) (ev_loc rfl)) (ev p.1 hp1.1 p.2 sto (pds_mem hd2.2 hp1.2)))
                rw [shps_zip r ds h1 hl]
                refine fin (env1 := [.val r.d, .val (.tup [l, .tup ds]), .no, .no]) ((seq_nx s1).trans ((seq_nx s2).trans ((seq_nx s3).trans (ex_ret (ex_rete (ev_blt (f := .all) (el_one cm) ?_) rfl)))))
                show (allBls _).map _ = _
                rw [show ((r.parts.zip ds).map fun p => D.bl (shp p.1.2.2 p.2)) = ((r.parts.zip ds).map fun p => shp p.1.2.2 p.2).map D.bl by rw [List.map_map]; rfl, all_bls]
                show some (Rv.val (.bl (List.all _ id))) = _
                rw [List.all_map]; rfl
              · rw [decide_eq_false hl] at t6
                have : shps r ds = false := by
                  cases e : shps r ds with
                  | false => rfl
                  | true => exact absurd (shps_len r ds e) hl
                rw [this]
                exact fin ((seq_nx s1).trans ((seq_nx s2).trans (no (ev_torF t5 t6))))
      · rw [decide_eq_false h2l] at t2
        rw [shp_no h2 _ (by rintro l ds e; cases e; exact h2l rfl)]
        exact fin ((seq_nx s1).trans (no (ev_torF t1 (ev_torT t2))))
/-- is_paper of right recipes, of odd things -/
theorem sp_ispaper [H_is_paper M] {r : Rc} (hr : r.good) {d : D} (hd : pd d = true) (k : Nat) (sto : List (List D)) : (cfg M (k + 15)).fns "is_paper" [r.d, d] sto = some (.ok (.val (.bl (shp r d))), sto) := by
  have e := sp_check (M := M) ((pd_rc r).1 hr.1) k sto
  rw [fb_good hr] at e
  have po := po_all (M := M) 6 r hr.2.2.2 hr.1 (k + 11) (by have := hr.2.2.2; omega) d sto hd
  exact fn_ret (k := k + 14) (env1 := [.val r.d, .val d]) H_is_paper.tb_is_paper rfl ((seq_nx (ex_exp (ev_callp (el_one (v := .val r.d) (ev_loc rfl)) e))).trans (ex_ret (ex_rete (ev_callp (el_two (v := .val r.d) (u := .val d) (ev_loc rfl) (ev_loc rfl)) po) rfl)))
theorem odd_ispaper [H_is_paper M] {x d : D} (hx : pd x = true) (hf : fb 6 x = none) (k : Nat) (sto : List (List D)) : (cfg M (k + 15)).fns "is_paper" [x, d] sto = some (.error ⟨"BadRecipe", []⟩, sto) := by
  have e := sp_check (M := M) hx k sto
  rw [hf] at e
  exact fn_err (k := k + 14) (env1 := [.val x, .val d]) H_is_paper.tb_is_paper rfl (ex_err (ex_expx (ev_callx (el_one (v := .val x) (ev_loc rfl)) e)))
end
end Lib

set_option Elab.async false
set_option linter.all false
set_option maxRecDepth 100000
set_option maxHeartbeats 1000000
namespace Lib
open PySem L2 Pi
theorem eq_tints (l m : List Int) : eqO (.tup (l.map .int)) (.tup (m.map .int)) = some (decide (l = m)) := by
  show eqP _ _ = _
  show ((toPs (l.map .int)).map PyData.tuple).bind (fun p => ((toPs (m.map .int)).map PyData.tuple).bind fun q => gd (SeqAt.shaped p = true ∧ SeqAt.shaped q = true) (some (PyData.eqv p q))) = _
  rw [toPs_ints, toPs_ints]
  show gd (SeqAt.shaped (.tuple (l.map .int)) = true ∧ SeqAt.shaped (.tuple (m.map .int)) = true) (some (PyData.eqvAll (l.map .int) (m.map .int))) = _
  rw [eqv_ints]
  exact if_pos ⟨shaped_ints l, shaped_ints m⟩
theorem eq_frac {n d : Int} (h : 1 ≤ d) : cmpOp .NotEq (fr (mkRat n d.toNat)) (.tup [.int n, .int d]) = some (!isF (.tup [.int n, .int d])) := by
  show (eqO (.tup ([(mkRat n d.toNat).num, ((mkRat n d.toNat).den : Int)].map .int)) (.tup ([n, d].map .int))).map _ = _
  rw [eq_tints]
  show some (!decide _) = _
  congr 2
  rw [Bool.eq_iff_iff, decide_eq_true_eq]
  constructor
  · intro e
    rw [show D.tup [.int n, .int d] = fr (mkRat n d.toNat) from by
      show D.tup ([n, d].map .int) = .tup ([(mkRat n d.toNat).num, ((mkRat n d.toNat).den : Int)].map .int)
      rw [e]]
    exact isF_fr _
  · intro e
    obtain ⟨q, e⟩ := fr_of e
    injection e with e
    injection e with e1 e2
    injection e2 with e2 _
    injection e1 with e1
    injection e2 with e2
    have : mkRat n d.toNat = q := by rw [e1, e2, Int.toNat_natCast, Rat.mkRat_self]
    rw [this, e1, e2]
section
variable {M : Md}
theorem ls_all [H__law_is_shape M] [H__law_drawn M] : ∀ (n : Nat) (r : Rc), r.dep ≤ n → r.ok → ∀ L, r.dep ≤ L → PO M "_law_is_shape" (L + 2) r := by
  refine rc_ind (P := fun L r => PO M "_law_is_shape" (L + 2) r) ?_ ?_
  · intro L b h0 h7 d sto hd
    exact fn_ret (k := L + 1) (env1 := [.val (.int b), .val d, .no, .no, .no]) H__law_is_shape.tb__law_is_shape rfl (ex_ret ((ex_iteT (ev_trub (ev_isi (v := .val (.int b)) (ev_loc rfl) rfl))).trans (ex_ret (ex_rete (v := .val (.bl (isNon d))) (ev_isN (v := .val d) (ev_loc rfl)) rfl))))
  · intro L r hok h1 h2 len ev d sto hd
    have s1 := ex_if0 (C := cfg M (L + 2)) (A := .seq (.ret (.isN (.loc 1))) .skip) (ev_trub (ev_isi (ty := .int) (p := false) (s1 := ⟨[.val r.d, .val d, .no, .no, .no], sto⟩) (v := .val r.d) (ev_loc (i := 0) rfl) (by rw [is_tup h2]; rfl)))
    have fin : ∀ {b : Bool} {env1}, exS (cfg M (L + 2)) i__law_is_shape.body ⟨[.val r.d, .val d, .no, .no, .no], sto⟩ = okk (.ret (.val (.bl b))) ⟨env1, sto⟩ → (cfg M (L + 3)).fns "_law_is_shape" [r.d, d] sto = some (.ok (.val (.bl b)), sto) := fun h => fn_ret (k := L + 2) H__law_is_shape.tb__law_is_shape rfl h
    have t1 : evE (cfg M (L + 2)) (.tnot (.tru (.isi (.loc 1) .tuple))) ⟨[.val r.d, .val d, .no, .no, .no], sto⟩ = okk (.val (.bl !isTup d)) ⟨[.val r.d, .val d, .no, .no, .no], sto⟩ := ev_tnot (ev_trub (ev_isi (v := .val d) (ev_loc rfl) (ty_tup d hd)))
    have no : ∀ {c : E} {B : S} {s : Pi.St}, evE (cfg M (L + 2)) c s = okk (.val (.bl true)) s → exS (cfg M (L + 2)) (.seq (.ite c (.seq (.ret (.cB false)) .skip) .skip) B) s = okk (.ret (.val (.bl false))) s := fun h => ex_ret ((ex_iteT h).trans (ex_ret (ex_rete ev_cB rfl)))
    cases ht : isTup d with
    | false =>
      rw [shp_no h2 d (by rintro l ds rfl; cases ht)]
      rw [ht] at t1
      exact fin ((seq_nx s1).trans (no (ev_torT t1)))
    | true =>
      obtain ⟨xs, rfl⟩ := is_tupD ht
      rw [ht] at t1
      have t2 : evE (cfg M (L + 2)) (.cmp .NotEq (.len (.loc 1)) (.cI 2)) ⟨[.val r.d, .val (.tup xs), .no, .no, .no], sto⟩ = okk (.val (.bl !decide (xs.length = 2))) ⟨[.val r.d, .val (.tup xs), .no, .no, .no], sto⟩ := ev_cmpc (v := .val (.int (xs.length : Nat))) (u := .val (.int ((2 : Nat) : Int))) (ev_len (d := .tup xs) (br_loc rfl) rfl rfl) ev_cI rfl rfl (ne_nat _ _)
      by_cases h2l : xs.length = 2
      · match xs, h2l with
        | [l, b], _ =>
          have hd2 : (pd l && (pd b && true)) = true := hd
          rw [Bool.and_true, Bool.and_eq_true] at hd2
          have s2 := ex_if0 (A := .seq (.ret (.cB false)) .skip) (ev_torF t1 t2)
          have t5 : evE (cfg M (L + 2)) (.tnot (.tru (.isi (.idx (.loc 1) (.cI 1)) .tuple))) ⟨[.val r.d, .val (.tup [l, b]), .no, .no, .no], sto⟩ = okk (.val (.bl !isTup b)) ⟨[.val r.d, .val (.tup [l, b]), .no, .no, .no], sto⟩ := ev_tnot (ev_trub (ev_isi (v := .val b) (ev_idxl rfl rfl ix1) (ty_tup b hd2.2)))
          cases hb : isTup b with
          | false =>
            rw [hb] at t5
            rw [shp_no h2 _ (by rintro l' ds e; cases e; cases hb)]
            exact fin ((seq_nx s1).trans ((seq_nx s2).trans (no (ev_torT t5))))
          | true =>
            obtain ⟨ds, rfl⟩ := is_tupD hb
            rw [hb] at t5
            rw [shp_mix h2]
            have ln : evE (cfg M (L + 2)) (.len (.loc 0)) ⟨[.val r.d, .val (.tup [l, .tup ds]), .no, .no, .no], sto⟩ = okk (.val (.int (r.parts.length : Nat))) ⟨[.val r.d, .val (.tup [l, .tup ds]), .no, .no, .no], sto⟩ := ev_len (d := r.d) (br_loc rfl) (by rw [is_tup h2]; rfl) (by rw [is_tup h2]; show some (Rv.val (.int ((r.parts.map pt).length : Nat))) = _; rw [List.length_map])
            have t6 : evE (cfg M (L + 2)) (.cmp .NotEq (.len (.idx (.loc 1) (.cI 1))) (.len (.loc 0))) ⟨[.val r.d, .val (.tup [l, .tup ds]), .no, .no, .no], sto⟩ = okk (.val (.bl !decide (ds.length = r.parts.length))) ⟨[.val r.d, .val (.tup [l, .tup ds]), .no, .no, .no], sto⟩ := ev_cmpc (v := .val (.int (ds.length : Nat))) (ev_len (d := .tup ds) (br_ex (v := .val (.tup ds)) (ev_idxl rfl rfl ix1) rfl) rfl rfl) ln rfl rfl (ne_nat _ _)
            by_cases hl : ds.length = r.parts.length
            · rw [decide_eq_true hl] at t6
              have s3 := ex_if0 (A := .seq (.ret (.cB false)) .skip) (ev_torF t5 t6)
              have s4 := ex_set (C := cfg M (L + 2)) (i := 2) (s := ⟨[.val r.d, .val (.tup [l, .tup ds]), .no, .no, .no], sto⟩) (ev_idxl (i := 1) (j := 0) (d := .tup [l, .tup ds]) rfl rfl ix0) (by simp)
              have tl1 : evE (cfg M (L + 2)) (.tnot (.tru (.isi (.loc 2) .tuple))) ⟨[.val r.d, .val (.tup [l, .tup ds]), .val l, .no, .no], sto⟩ = okk (.val (.bl !isTup l)) ⟨[.val r.d, .val (.tup [l, .tup ds]), .val l, .no, .no], sto⟩ := ev_tnot (ev_trub (ev_isi (v := .val l) (ev_loc rfl) (ty_tup l hd2.1)))
              have pre : ∀ {B : S} {b : Bool} {env1}, exS (cfg M (L + 2)) B ⟨[.val r.d, .val (.tup [l, .tup ds]), .val l, .no, .no], sto⟩ = okk (.ret (.val (.bl b))) ⟨env1, sto⟩ → exS (cfg M (L + 2)) (.seq (.ite (.tru (.isi (.loc 0) .int)) (.seq (.ret (.isN (.loc 1))) .skip) .skip) (.seq (.ite (.tor (.tnot (.tru (.isi (.loc 1) .tuple))) (.cmp .NotEq (.len (.loc 1)) (.cI 2))) (.seq (.ret (.cB false)) .skip) .skip)
                  (.seq (.ite (.tor (.tnot (.tru (.isi (.idx (.loc 1) (.cI 1)) .tuple))) (.cmp .NotEq (.len (.idx (.loc 1) (.cI 1))) (.len (.loc 0)))) (.seq (.ret (.cB false)) .skip) .skip) (.seq (.set (.nm 2) (.idx (.loc 1) (.cI 0))) B)))) ⟨[.val r.d, .val (.tup [l, .tup ds]), .no, .no, .no], sto⟩ = okk (.ret (.val (.bl b))) ⟨env1, sto⟩ :=
                fun h => (seq_nx s1).trans ((seq_nx s2).trans ((seq_nx s3).trans ((seq_nx s4).trans h)))
              cases hlt : isTup l with
              | false =>
                rw [hlt] at tl1
                have z : isF l = false := by
                  cases e : isF l with
                  | false => rfl
                  | true =>
                    obtain ⟨q, rfl⟩ := fr_of e
                    cases hlt
                rw [z, Bool.false_and]
                exact fin (pre (no (ev_torT tl1)))
              | true =>
                obtain ⟨ls, rfl⟩ := is_tupD hlt
                rw [hlt] at tl1
                have tl2 : evE (cfg M (L + 2)) (.cmp .NotEq (.len (.loc 2)) (.cI 2)) ⟨[.val r.d, .val (.tup [.tup ls, .tup ds]), .val (.tup ls), .no, .no], sto⟩ = okk (.val (.bl !decide (ls.length = 2))) ⟨[.val r.d, .val (.tup [.tup ls, .tup ds]), .val (.tup ls), .no, .no], sto⟩ := ev_cmpc (v := .val (.int (ls.length : Nat))) (u := .val (.int ((2 : Nat) : Int))) (ev_len (d := .tup ls) (br_loc rfl) rfl rfl) ev_cI rfl rfl (ne_nat _ _)
                by_cases hls : ls.length = 2
                · match ls, hls with
                  | [a, c], _ =>
                    have tl3 := ex_if0 (A := .seq (.ret (.cB false)) .skip) (ev_torF tl1 tl2)
                    have hac : (pd a && (pd c && true)) = true := hd2.1
                    rw [Bool.and_true, Bool.and_eq_true] at hac
                    have ca := comp_map (C := cfg M (L + 2)) (vs := [4]) (t := .nm 4) (e := c__law_is_shape_1) (src := .itr (.loc 2)) (s := ⟨[.val r.d, .val (.tup [.tup [a, c], .tup ds]), .val (.tup [a, c]), .no, .no], sto⟩) (s1 := ⟨[.val r.d, .val (.tup [.tup [a, c], .tup ds]), .val (.tup [a, c]), .no, .no], sto⟩) (xs := [a, c]) (g := fun x => x) (fun x => .bl (isI x)) (ei_itr (v := .val (.tup [a, c])) (ev_loc rfl) rfl) rfl (by simp) (by
                      intro x hx
                      have px : pd x = true := by
                        simp only [List.mem_cons, List.not_mem_nil, or_false] at hx
                        rcases hx with rfl | rfl
                        · exact hac.1
                        · exact hac.2
                      refine ⟨[.val r.d, .val (.tup [.tup [a, c], .tup ds]), .val (.tup [a, c]), .no, .val x], .val (.bl (isI x)), rfl, rfl, ?_, rfl⟩
                      cases x with
                      | non => exact ev_andF (ev_isi (v := .val .non) (ev_loc rfl) rfl)
                      | bl b => exact ev_andT (ev_isi (v := .val (.bl b)) (ev_loc rfl) rfl) (ev_not (p := true) (ev_isi (v := .val (.bl b)) (ev_loc rfl) rfl))
                      | int b => exact ev_andT (ev_isi (v := .val (.int b)) (ev_loc rfl) rfl) (ev_not (p := false) (ev_isi (v := .val (.int b)) (ev_loc rfl) rfl))
                      | str b => exact ev_andF (ev_isi (v := .val (.str b)) (ev_loc rfl) rfl)
                      | tup b => exact ev_andF (ev_isi (v := .val (.tup b)) (ev_loc rfl) rfl)
                      | lst b => exact ev_andF (ev_isi (v := .val (.lst b)) (ev_loc rfl) rfl)
                      | _ => cases px)
                    have cb := ev_tnot (ev_trub (ev_blt (f := .all) (v := .val (.bl (isI a && isI c))) (el_one ca) (by
                      show allOp [.lst [.bl (isI a), .bl (isI c)]] = _
                      show some (Rv.val (.bl (isI a && (isI c && true)))) = _
                      rw [Bool.and_true])))
                    have isf : (isI a && isI c) = false → isF (.tup [a, c]) = false := by
                      intro h
                      cases e : isF (.tup [a, c]) with
                      | false => rfl
                      | true => obtain ⟨q, e⟩ := fr_of e; cases e; cases h
                    cases hi : isI a && isI c with
                    | false =>
                      rw [hi] at cb
                      rw [isf hi, Bool.false_and]
                      exact fin (pre ((seq_nx tl3).trans (no cb)))
                    | true =>
                      rw [hi] at cb
                      rw [Bool.and_eq_true] at hi
                      obtain ⟨n, rfl⟩ := isI_int hi.1
                      obtain ⟨c, rfl⟩ := isI_int hi.2
                      have cb0 := ex_if0 (A := .seq (.ret (.cB false)) .skip) cb
                      have lt : evE (cfg M (L + 2)) (.cmp .Lt (.idx (.loc 2) (.cI 1)) (.cI 1)) ⟨[.val r.d, .val (.tup [.tup [.int n, .int c], .tup ds]), .val (.tup [.int n, .int c]), .no, .no], sto⟩ = okk (.val (.bl (decide (c < 1)))) ⟨[.val r.d, .val (.tup [.tup [.int n, .int c], .tup ds]), .val (.tup [.int n, .int c]), .no, .no], sto⟩ := ev_cmpc (v := .val (.int c)) (ev_idxl rfl rfl ix1) ev_cI rfl rfl rfl
                      by_cases hc : c < 1
                      · rw [decide_eq_true hc] at lt
                        rw [show isF (.tup [.int n, .int c]) = false from by
                          show (decide (1 ≤ c) && _) = false
                          rw [decide_eq_false (by omega)]; rfl, Bool.false_and]
                        exact fin (pre ((seq_nx tl3).trans ((seq_nx cb0).trans (no (ev_torT lt)))))
                      · rw [decide_eq_false hc] at lt
                        have fc := sp_frac (M := M) (k := L + 1) (n := n) (d := c) (sto := sto) (by omega) (pd_int hac.1) (pd_int hac.2)
                        have ne : evE (cfg M (L + 2)) (.cmp .NotEq (.call "_law_frac" (.cons (.idx (.loc 2) (.cI 0)) (.cons (.idx (.loc 2) (.cI 1)) .nil))) (.loc 2)) ⟨[.val r.d, .val (.tup [.tup [.int n, .int c], .tup ds]), .val (.tup [.int n, .int c]), .no, .no], sto⟩ = okk (.val (.bl !isF (.tup [.int n, .int c]))) ⟨[.val r.d, .val (.tup [.tup [.int n, .int c], .tup ds]), .val (.tup [.int n, .int c]), .no, .no], sto⟩ :=
                          ev_cmpl (v := .val (fr (mkRat n c.toNat))) (d := .tup [.int n, .int c]) (ev_callp (el_two (v := .val (.int n)) (u := .val (.int c)) (ev_idxl rfl rfl ix0) (ev_idxl rfl rfl ix1)) fc) rfl rfl (eq_frac (by omega))
                        cases hf : isF (.tup [.int n, .int c]) with
                        | false =>
                          rw [hf] at ne
                          exact fin (pre ((seq_nx tl3).trans ((seq_nx cb0).trans (no (ev_torF lt ne)))))
                        | true =>
                          rw [hf] at ne
                          rw [Bool.true_and, shps_zip r ds h1 hl]
                          have zp : zipD r.d (.tup ds) = some ((r.parts.zip ds).map fun p => .tup [pt p.1, p.2]) := by
                            rw [is_tup h2]
                            show some (((r.parts.map pt).zip ds).map _) = _
                            rw [zip_map_l, List.map_map]; rfl
                          have cm := comp_map (C := cfg M (L + 2)) (vs := [3, 4]) (t := .cons (.nm 3) (.cons (.nm 4) .nil)) (e := c__law_is_shape_2) (src := .zip2 (.loc 0) (.idx (.loc 1) (.cI 1))) (s := ⟨[.val r.d, .val (.tup [.tup [.int n, .int c], .tup ds]), .val (.tup [.int n, .int c]), .no, .no], sto⟩) (s1 := ⟨[.val r.d, .val (.tup [.tup [.int n, .int c], .tup ds]), .val (.tup [.int n, .int c]), .no, .no], sto⟩) (xs := r.parts.zip ds) (g := fun p => .tup [pt p.1, p.2]) (fun p => .bl (shp p.1.2.2 p.2)) (ei_zip (v := .val r.d) (u := .val (.tup ds)) (ev_loc rfl) (ev_idxl rfl rfl ix1) zp) rfl (by rw [List.length_zip, parts_len]; omega) (by
                            intro p hp
                            have hp1 := List.of_mem_zip hp
                            refine ⟨[.val r.d, .val (.tup [.tup [.int n, .int c], .tup ds]), .val (.tup [.int n, .int c]), .val (pt p.1), .val p.2], .val (.bl (shp p.1.2.2 p.2)), rfl, rfl, ?_, rfl⟩
                            exact ev_callp (el_two (v := .val p.1.2.2.d) (u := .val p.2) (ev_idxl (d := pt p.1) rfl rfl ix2) (ev_loc rfl)) (ev p.1 hp1.1 p.2 sto (pds_mem hd2.2 hp1.2)))
                          refine fin (env1 := [.val r.d, .val (.tup [.tup [.int n, .int c], .tup ds]), .val (.tup [.int n, .int c]), .no, .no]) (pre ((seq_nx tl3).trans ((seq_nx cb0).trans ((seq_nx (ex_if0 (ev_torF lt ne))).trans (ex_ret (ex_rete (ev_blt (f := .all) (el_one cm) ?_) rfl))))))
                          show (allBls _).map _ = _
                          rw [show ((r.parts.zip ds).map fun p => D.bl (shp p.1.2.2 p.2)) = ((r.parts.zip ds).map fun p => shp p.1.2.2 p.2).map D.bl by rw [List.map_map]; rfl, all_bls]
                          show some (Rv.val (.bl (List.all _ id))) = _
                          rw [List.all_map]; rfl
                · rw [decide_eq_false hls] at tl2
                  rw [show isF (.tup ls) = false from by
                    cases e : isF (.tup ls) with
                    | false => rfl
                    | true => obtain ⟨q, e⟩ := fr_of e; cases e; exact absurd rfl hls, Bool.false_and]
                  exact fin (pre (no (ev_torF tl1 tl2)))
            · rw [decide_eq_false hl] at t6
              rw [show shps r ds = false from by
                cases e : shps r ds with
                | false => rfl
                | true => exact absurd (shps_len r ds e) hl, Bool.and_false]
              exact fin ((seq_nx s1).trans ((seq_nx s2).trans (no (ev_torF t5 t6))))
      · rw [decide_eq_false h2l] at t2
        rw [shp_no h2 _ (by rintro l ds e; cases e; exact h2l rfl)]
        exact fin ((seq_nx s1).trans (no (ev_torF t1 t2)))
end
end Lib

set_option Elab.async false
set_option linter.all false
set_option maxRecDepth 100000
set_option maxHeartbeats 1000000
namespace Lib
open PySem L2 Pi
/-! ### data with ints up to 1000 -/
mutual
def sd : D → Bool
  | .non => true | .bl _ => true | .str _ => true
  | .int i => decide (i.natAbs ≤ 1000)
  | .tup xs => sds xs | .lst xs => sds xs
  | _ => false
def sds : List D → Bool
  | [] => true
  | x :: r => sd x && sds r
end
theorem sds_all : ∀ xs : List D, sds xs = xs.all sd
  | [] => rfl
  | x :: r => by
    show (sd x && sds r) = _
    rw [sds_all r]; rfl
theorem sds_mem {xs : List D} {x : D} (h : sds xs = true) (m : x ∈ xs) : sd x = true := by
  rw [sds_all] at h
  exact List.all_eq_true.mp h x m
theorem pds_of {xs : List D} (h : ∀ x ∈ xs, pd x = true) : pds xs = true := by
  rw [pds_all]
  exact List.all_eq_true.mpr h
theorem sds_of {xs : List D} (h : ∀ x ∈ xs, sd x = true) : sds xs = true := by
  rw [sds_all]
  exact List.all_eq_true.mpr h
mutual
theorem sd_pd : ∀ d : D, sd d = true → pd d = true
  | .non, _ => rfl | .bl _, _ => rfl | .str _, _ => rfl
  | .int i, h => pd_small (by have := of_decide_eq_true (p := i.natAbs ≤ 1000) h; omega) (by have := of_decide_eq_true (p := i.natAbs ≤ 1000) h; omega)
  | .tup xs, h => sds_pds xs h
  | .lst xs, h => sds_pds xs h
  | .ref _, h => nomatch h
  | .scr _, h => nomatch h
  | .fn _, h => nomatch h
theorem sds_pds : ∀ xs : List D, sds xs = true → pds xs = true
  | [], _ => rfl
  | x :: r, h => by
    have h : (sd x && sds r) = true := h
    rw [Bool.and_eq_true] at h
    show (pd x && pds r) = true
    rw [sd_pd x h.1, sds_pds r h.2]; rfl
end
theorem cut_mem {α : Type} {xs : List α} {lo hi : Option Int} {x : α} (h : x ∈ cut xs lo hi) : x ∈ xs := List.mem_of_mem_drop (List.mem_of_mem_take h)
theorem pds_cut {xs : List D} {lo hi : Option Int} (h : pds xs = true) : pds (cut xs lo hi) = true := pds_of fun x hx => pds_mem h (cut_mem hx)
theorem pds_app {xs ys : List D} (h : pds xs = true) (h2 : pds ys = true) : pds (xs ++ ys) = true := pds_of fun x hx => by
  rcases List.mem_append.mp hx with hx | hx
  · exact pds_mem h hx
  · exact pds_mem h2 hx
theorem pd_two {a b : D} (ha : pd a = true) (hb : pd b = true) : pd (.tup [a, b]) = true := by
  show (pd a && (pd b && true)) = true
  rw [ha, hb]; rfl
section
variable {M : Md} {ms : List (List D)}
/-! ### a paper is drawn -/
def costP : Nat → Nat
  | 0 => 0
  | n + 1 => 2 + 8 * costP n
theorem costP_mono : ∀ n, costP n ≤ costP (n + 1)
  | n => by show costP n ≤ 2 + 8 * costP n; omega
theorem costP_le : ∀ {a b : Nat}, a ≤ b → costP a ≤ costP b := by
  intro a b h
  induction h with
  | refl => exact Nat.le_refl _
  | step _ ih => exact Nat.le_trans ih (costP_mono _)
def LP (M : Md) (ms : List (List D)) (L : Nat) (r : Rc) : Prop := ∀ m sto, Hk ms m sto → m + costP r.dep < 2 ^ 90 → ∃ d sto', (cfg M (L + 2)).fns "_law_paper" [.ref ms.length, r.d] sto = some (.ok (.val d), sto') ∧ shp r d = true ∧ sd d = true ∧ Hk ms (m + costP r.dep) sto'
theorem costP7 : costP 7 ≤ 10000000 := by decide
theorem zip_app {α β : Type} : ∀ {xs : List α} {ys : List β} {a : α} {b : β}, xs.length = ys.length → (xs ++ [a]).zip (ys ++ [b]) = xs.zip ys ++ [(a, b)]
  | [], [], _, _, _ => rfl
  | [], _ :: _, _, _, h => nomatch h
  | _ :: _, [], _, _, h => nomatch h
  | x :: xs, y :: ys, a, b, h => by
    show (x, y) :: (xs ++ [a]).zip (ys ++ [b]) = (x, y) :: (xs.zip ys ++ [(a, b)])
    rw [zip_app (by simpa using h)]
theorem lp_paper [H__law_paper M] [H__law_drawn M] : ∀ (n : Nat) (r : Rc), r.dep ≤ n → r.ok → ∀ L, r.dep ≤ L → LP M ms L r := by
  have key : ∀ (n : Nat) (r : Rc), r.dep ≤ n → r.ok → ∀ L, r.dep ≤ L → LP M ms L r := by
    refine rc_ind (P := fun L r => LP M ms L r) ?_ ?_
    · intro L b h0 h7 m sto hk hm
      exact ⟨.non, sto, fn_ret (k := L + 1) (env1 := [.val (.ref ms.length), .val (.int b), .no, .no, .no, .no]) H__law_paper.tb__law_paper rfl (ex_ret ((ex_iteT (ev_trub (ev_isi (v := .val (.int b)) (ev_loc rfl) rfl))).trans (ex_ret (ex_rete ev_cN rfl)))), rfl, rfl, hk.le (by omega)⟩
    · intro L r hok h1 h2 len ev m sto hk hm
      obtain ⟨c, cE, cp⟩ : ∃ c, costP r.dep = 2 + 8 * c ∧ ∀ p ∈ r.parts, costP p.2.2.dep ≤ c := by
        have pos : 1 ≤ r.dep := by
          cases r with
          | cons lo hi q rest => exact Nat.le_trans (Nat.succ_le_succ (Nat.zero_le _)) (Nat.le_max_left (q.dep + 1) rest.dep)
          | _ => exact h2.elim
        obtain ⟨n, en⟩ : ∃ n, r.dep = n + 1 := ⟨r.dep - 1, by omega⟩
        refine ⟨costP n, by rw [en]; rfl, fun p hp => costP_le ?_⟩
        have := (parts_ok r h1 p hp).2.1
        omega
      obtain ⟨v1, sto1, d1, v10, v11, hk1⟩ := c_draw (M := M) (k := L + 1) (i := 0) (a := .cI 40) (env := [.val (.ref ms.length), .val r.d, .no, .no, .no, .no]) rfl ev_cI hk (by omega) (by omega) (by omega)
      obtain ⟨v2, sto2, d2, v20, v21, hk2⟩ := c_draw (M := M) (k := L + 1) (i := 0) (a := .cI 9) (env := [.val (.ref ms.length), .val r.d, .no, .no, .no, .no]) rfl ev_cI hk1 (by omega) (by omega) (by omega)
      have s1 := ex_if0 (C := cfg M (L + 2)) (A := .seq (.ret .cN) .skip) (ev_trub (ev_isi (ty := .int) (p := false) (s1 := ⟨[.val (.ref ms.length), .val r.d, .no, .no, .no, .no], sto⟩) (v := .val r.d) (ev_loc (i := 1) rfl) (by rw [is_tup h2]; rfl)))
      have fc := sp_frac (M := M) (k := L + 1) (n := v1 - 20) (d := 1 + v2) (sto := sto2) (by omega) (sm_small (by omega) (by omega)) (sm_small (by omega) (by omega))
      obtain ⟨q, eq⟩ : ∃ q, q = mkRat (v1 - 20) (1 + v2).toNat := ⟨_, rfl⟩
      have qs : q.num.natAbs ≤ 1000 ∧ q.den ≤ 1000 := by
        obtain ⟨h1, h2⟩ := num_den_mk (v1 - 20) (d := (1 + v2).toNat) (by omega)
        rw [← eq] at h1 h2
        exact ⟨by omega, by omega⟩
      rw [← eq] at fc
      have s2 := ex_set (i := 2) (ev_call (C := cfg M (L + 2)) (f := "_law_frac") (el_two (v := .val (.int (v1 - 20))) (u := .val (.int (1 + v2))) (ev_bin (o := .Sub) d1 (ev_cI (j := 20)) rfl) (ev_bin (o := .Add) (ev_cI (j := 1)) d2 rfl)) fc) (by simp)
      obtain ⟨out, sto', cc1, ps, qs', i1, i2, i3, i4, i5, i6⟩ := comp_ev (C := cfg M (L + 2)) (vs := [3, 4, 5]) (t := .cons (.nm 3) (.cons (.nm 4) (.cons (.nm 5) .nil))) (e := c__law_paper_1) (c := .cB true) (src := .itr (.loc 1)) (s := ⟨[.val (.ref ms.length), .val r.d, .val (fr q), .no, .no, .no], sto2⟩) (s1 := ⟨[.val (.ref ms.length), .val r.d, .val (fr q), .no, .no, .no], sto2⟩) (items := r.parts.map pt)
        (fun acc rem sto => ∃ ps qs, r.parts = ps ++ qs ∧ rem = qs.map pt ∧ acc.length = ps.length ∧ (∀ p ∈ ps.zip acc, shp p.1.2.2 p.2 = true) ∧ sds acc = true ∧ Hk ms (m + 2 + ps.length * c) sto) (ei_itr (v := .val r.d) (ev_loc rfl) (by rw [is_tup h2]; rfl)) rfl ⟨[], r.parts, rfl, rfl, rfl, (by intro _ z; cases z), rfl, hk2.le (by simp)⟩ (by
        rintro x rem acc sto ⟨ps, qs, i1, i2, i3, i4, i5, i6⟩
        cases qs with
        | nil => cases i2
        | cons p qs =>
          cases i2
          have pl : ps.length + (qs.length + 1) ≤ 8 := by
            have := congrArg List.length i1
            rw [parts_len, List.length_append, List.length_cons] at this
            omega
          have pm : (ps.length + 1) * c ≤ 8 * c := Nat.mul_le_mul_right _ (by omega)
          rw [Nat.succ_mul] at pm
          obtain ⟨d, sto', e1, e2, e3, e4⟩ := ev p (by rw [i1]; simp) _ sto i6 (by have := cp p (by rw [i1]; simp); omega)
          refine ⟨[.val (.ref ms.length), .val r.d, .val (fr q), .val (fr p.1), .val (fr p.2.1), .val p.2.2.d], rfl, .inl ⟨.val d, _, sto', rfl, ev_call (s1 := ⟨[.val (.ref ms.length), .val r.d, .val (fr q), .val (fr p.1), .val (fr p.2.1), .val p.2.2.d], sto⟩) (el_two (v := .val (.ref ms.length)) (u := .val p.2.2.d) (ev_loc rfl) (ev_loc rfl)) e1, rfl, ?_, ps ++ [p], qs, by rw [i1]; simp, rfl, by simp [i3], ?_, ?_, ?_⟩⟩
          · rw [i3]
            have : (8 : Nat) < szL := by decide
            omega
          · intro z hz
            rw [zip_app i3.symm] at hz
            rcases List.mem_append.mp hz with hz | hz
            · exact i4 z hz
            · rw [List.mem_singleton] at hz
              rw [hz]; exact e2
          · refine sds_of fun z hz => ?_
            rcases List.mem_append.mp hz with hz | hz
            · exact sds_mem i5 hz
            · rw [List.mem_singleton] at hz
              rw [hz]; exact e3
          · exact e4.le (by have := cp p (by rw [i1]; simp); rw [List.length_append, List.length_singleton, Nat.succ_mul]; omega))
      have q0 : qs' = [] := by
        cases qs' with
        | nil => rfl
        | cons => cases i2
      subst q0
      rw [List.append_nil] at i1
      rw [← i1] at i3 i4 i6
      refine ⟨.tup [fr q, .tup out], sto', fn_ret (k := L + 2) (env1 := [.val (.ref ms.length), .val r.d, .val (fr q), .no, .no, .no]) H__law_paper.tb__law_paper rfl ((seq_nx s1).trans ((seq_nx s2).trans (ex_ret (ex_rete (ev_tup (el_two (v := .val (fr q)) (u := .val (.tup out)) (ev_loc rfl) (ev_blt (f := .tuple) (el_one cc1) rfl)) (by simp)) rfl)))), ?_, ?_, ?_⟩
      · rw [shp_mix h2, isF_fr, shps_zip r out h1 i3, Bool.true_and]
        exact List.all_eq_true.mpr i4
      · show (sd (fr q) && (sds out && true)) = true
        rw [i5]
        show ((decide (q.num.natAbs ≤ 1000) && (decide ((q.den : Int).natAbs ≤ 1000) && true)) && _) = true
        rw [decide_eq_true qs.1, decide_eq_true (by have := qs.2; omega)]; rfl
      · have : r.parts.length * c ≤ 8 * c := Nat.mul_le_mul_right _ (by rw [parts_len]; omega)
        exact i6.le (by rw [cE]; omega)
  exact key
end
end Lib

set_option Elab.async false
set_option linter.all false
set_option maxRecDepth 100000
set_option maxHeartbeats 1000000
namespace Lib
open PySem L2 Pi
theorem ev_cmp2T {C : Cfg} {a b c : E} {s s1 s2 s3 : Pi.St} {v u t : Rv} {o1 o2 : CmpOp} {p : Bool} (ha : evE C a s = okk v s1) (hb : evE C b s1 = okk u s2) (h1 : cmpOp o1 v.d u.d = some true) (hc : evE C c s2 = okk t s3) (h2 : cmpOp o2 u.d t.d = some p) : evE C (.cmp2 o1 o2 a b c) s = okk (.val (.bl p)) s3 := by
  show bnd (fz (evE C a s)) _ = _
  rw [fz_ok ha]
  show bnd (fz (evE C b s1)) _ = _
  rw [fz_ok hb]
  show (match cmpOp o1 v.d u.d with
    | some true => bnd (fz (evE C c s2)) fun z s => lift ((cmpOp o2 u.d z).map fun b => .val (.bl b)) s
    | some false => okk (.val (.bl false)) s2
    | none => none : Rs Rv) = _
  rw [h1]
  show bnd (fz (evE C c s2)) _ = _
  rw [fz_ok hc]
  show lift ((cmpOp o2 u.d t.d).map _) s3 = _
  rw [h2]; rfl
theorem maxI_mem : ∀ (l : List Int) (m : Int), maxI m l ∈ m :: l
  | [], m => List.mem_cons_self
  | y :: l, m => by
    show maxI (if y > m then y else m) l ∈ _
    have := maxI_mem l (if y > m then y else m)
    rcases List.mem_cons.mp this with h | h
    · rw [h]
      split
      · simp
      · simp
    · exact List.mem_cons_of_mem _ (List.mem_cons_of_mem _ h)
theorem max_bins {l : List Int} (h : ∀ b ∈ l, 0 ≤ b ∧ b ≤ 7) (hl : 1 ≤ l.length) : ∃ n : Nat, n ≤ 7 ∧ maxOp [.lst (l.map .int)] = some (.val (.int n)) := by
  cases l with
  | nil => cases hl
  | cons a l =>
    have := h _ (maxI_mem l a)
    refine ⟨(maxI a l).toNat, by omega, ?_⟩
    show (match allInts ((a :: l).map D.int) with
      | some (m :: r) => some (Rv.val (.int (maxI m r)))
      | _ => none) = _
    rw [allInts_int]
    show some (Rv.val (.int (maxI a l))) = _
    rw [show (((maxI a l).toNat : Nat) : Int) = maxI a l by omega]
def prc (n : Nat) : D := .tup (List.replicate n (dq 1 2))
theorem mul_prc {n : Nat} (h : n ≤ 7) : mulOp (.tup [dq 1 2]) (.int ((n : Int) + 1)) = some (.val (prc (n + 1))) := by
  have e : mulOp (.tup [dq 1 2]) (.int ((n : Int) + 1)) = gd ([dq 1 2] ≠ [] ∧ 1 ≤ ((n : Int) + 1) ∧ ((n : Int) + 1) ≤ 1000 ∧ [dq 1 2].length ≤ 1000) (some (.val (.tup (List.replicate ((n : Int) + 1).toNat [dq 1 2]).flatten))) := rfl
  rw [e, show ∀ m : Option Rv, gd ([dq 1 2] ≠ [] ∧ 1 ≤ ((n : Int) + 1) ∧ ((n : Int) + 1) ≤ 1000 ∧ [dq 1 2].length ≤ 1000) m = m from fun m => if_pos ⟨by simp, by omega, by omega, by simp⟩, show ((n : Int) + 1).toNat = n + 1 by omega]
  simp [prc, List.flatten_replicate_singleton]
section
variable {M : Md}
theorem sp_isprices [H_is_prices M] {n : Nat} (h : n ≤ 7) (k : Nat) (sto : List (List D)) : (cfg M (k + 3)).fns "is_prices" [prc (n + 1)] sto = some (.ok (.val (.bl true)), sto) := by
  have c : (cfg M (k + 2)).cst "MOST_PRICES" = some (.int 8) := by rw [cst_at]; exact C_MOST_PRICES.cs_MOST_PRICES
  have t1 : evE (cfg M (k + 2)) (.tnot (.tru (.isi (.loc 0) .tuple))) ⟨[.val (prc (n + 1)), .no], sto⟩ = okk (.val (.bl false)) ⟨[.val (prc (n + 1)), .no], sto⟩ := ev_tnot (p := true) (ev_trub (ev_isi (v := .val (prc (n + 1))) (ev_loc rfl) rfl))
  have t2 : evE (cfg M (k + 2)) (.cmp2 .LtE .LtE (.cI 1) (.len (.loc 0)) (.glb "MOST_PRICES")) ⟨[.val (prc (n + 1)), .no], sto⟩ = okk (.val (.bl true)) ⟨[.val (prc (n + 1)), .no], sto⟩ :=
    ev_cmp2T (v := .val (.int 1)) (u := .val (.int ((n : Int) + 1))) (t := .val (.int 8)) ev_cI (ev_len (d := prc (n + 1)) (br_loc rfl) rfl (by show some (Rv.val (.int ((List.replicate (n + 1) (dq 1 2)).length : Nat))) = _; rw [List.length_replicate]; rfl)) (by show some (decide _) = _; rw [decide_eq_true (by omega)]) (ev_glb c) (by show some (decide _) = _; rw [decide_eq_true (by omega)])
  have f := sp_isfrac (M := M) k (d := dq 1 2) (by decide +kernel) sto
  have cm := comp_map (C := cfg M (k + 2)) (vs := [1]) (t := .nm 1) (e := c_is_prices_1) (src := .itr (.loc 0)) (s := ⟨[.val (prc (n + 1)), .no], sto⟩) (s1 := ⟨[.val (prc (n + 1)), .no], sto⟩) (xs := List.replicate (n + 1) (dq 1 2)) (g := fun x => x) (fun _ => .bl true) (ei_itr (v := .val (prc (n + 1))) (ev_loc rfl) (by rw [List.map_id']; rfl)) rfl (by rw [List.length_replicate]; omega) (by
    intro x hx
    obtain ⟨_, rfl⟩ := List.mem_replicate.mp hx
    exact ⟨[.val (prc (n + 1)), .val (dq 1 2)], .val (.bl true), rfl, rfl, ev_callp (el_one (v := .val (dq 1 2)) (ev_loc rfl)) f, rfl⟩)
  refine fn_ret (k := k + 2) (env1 := [.val (prc (n + 1)), .no]) H_is_prices.tb_is_prices rfl ((seq_nx (ex_if0 (ev_torF t1 (ev_tnot (p := true) t2)))).trans (ex_ret (ex_rete (ev_blt (f := .all) (el_one cm) ?_) rfl)))
  rw [show ((List.replicate (n + 1) (dq 1 2)).map fun _ => D.bl true) = (List.replicate (n + 1) true).map D.bl by rw [List.map_replicate, List.map_replicate]]
  show allOp [.lst ((List.replicate (n + 1) true).map D.bl)] = _
  show (allBls ((List.replicate (n + 1) true).map D.bl)).map (fun l => Rv.val (.bl (l.all id))) = _
  rw [all_bls]
  show some (Rv.val (.bl ((List.replicate (n + 1) true).all id))) = _
  rw [show (List.replicate (n + 1) true).all id = true from List.all_eq_true.mpr fun x hx => (List.mem_replicate.mp hx).2]
theorem sp_checkprices [H_check_prices M] {r : Rc} (hr : r.good) {n : Nat} (h : n ≤ 7) (hm : maxOp [.lst (r.bins.map .int)] = some (.val (.int n))) (k : Nat) (sto : List (List D)) : (cfg M (k + 15)).fns "check_prices" [r.d, prc (n + 1)] sto = some (.ok (.val .non), sto) := by
  have e := sp_check (M := M) ((pd_rc r).1 hr.1) k sto
  rw [fb_good hr] at e
  have ip := sp_isprices (M := M) h (k + 11) sto
  have rb := (rb_both (M := M) r).1 (k + 14) hr.1 hr.2.2.1 (by have := hr.2.2.2; omega) sto
  have t1 := ev_tnot (p := true) (ev_trub (ev_callp (C := cfg M (k + 14)) (f := "is_prices") (s1 := ⟨[.val r.d, .val (prc (n + 1))], sto⟩) (el_one (v := .val (prc (n + 1))) (ev_loc (i := 1) rfl)) ip))
  have t2 : evE (cfg M (k + 14)) (.cmp .GtE (.blt .max (.cons (.call "recipe_bins" (.cons (.loc 0) .nil)) .nil)) (.len (.loc 1))) ⟨[.val r.d, .val (prc (n + 1))], sto⟩ = okk (.val (.bl false)) ⟨[.val r.d, .val (prc (n + 1))], sto⟩ :=
    ev_cmpc (v := .val (.int n)) (u := .val (.int ((n : Int) + 1))) (ev_blt (f := .max) (el_one (ev_callp (el_one (v := .val r.d) (ev_loc rfl)) rb)) hm) (ev_len (d := prc (n + 1)) (br_loc rfl) rfl (by show some (Rv.val (.int ((List.replicate (n + 1) (dq 1 2)).length : Nat))) = _; rw [List.length_replicate]; rfl)) rfl rfl (by show some (decide _) = _; rw [decide_eq_false (by omega)])
  exact fn_nx (k := k + 14) (env1 := [.val r.d, .val (prc (n + 1))]) H_check_prices.tb_check_prices rfl ((seq_nx (ex_exp (ev_callp (el_one (v := .val r.d) (ev_loc rfl)) e))).trans ((seq_nx (ex_if0 (ev_torF t1 t2))).trans rfl))
theorem sp_isfloor0 [H_is_floor M] {r : Rc} (hr : r.good) {n : Nat} (h : n ≤ 7) (hm : maxOp [.lst (r.bins.map .int)] = some (.val (.int n))) {d : D} (hd : pd d = true) (hs : shp r d = false) (k : Nat) (sto : List (List D)) : (cfg M (k + 16)).fns "is_floor" [r.d, prc (n + 1), d] sto = some (.ok (.val (.bl false)), sto) := by
  have cp := sp_checkprices (M := M) hr h hm k sto
  have po := po_all (M := M) 6 r hr.2.2.2 hr.1 (k + 12) (by have := hr.2.2.2; omega) d sto hd
  rw [hs] at po
  exact fn_ret (k := k + 15) (env1 := [.val r.d, .val (prc (n + 1)), .val d]) H_is_floor.tb_is_floor rfl ((seq_nx (ex_exp (ev_callp (el_two (v := .val r.d) (u := .val (prc (n + 1))) (ev_loc rfl) (ev_loc rfl)) cp))).trans (ex_ret (ex_rete (ev_andF (ev_callp (el_two (v := .val r.d) (u := .val d) (ev_loc rfl) (ev_loc rfl)) po)) rfl)))
end
end Lib

set_option Elab.async false
set_option linter.all false
set_option maxRecDepth 100000
set_option maxHeartbeats 1000000
namespace K13
open PySem L2 Pi
-- program: PySem.Challenge.pw_seenbins_k13_whole_shapes_of_level_paper
def i_is_int : Fn := ⟨1, 1,
  (.seq (.ret (.and (.isi (.loc 0) .int) (.not (.isi (.loc 0) .bool))))
  .skip)⟩
def n_is_int (top : Nat → Stmt) : Ent := ⟨"is_int", top 7, ["thing"], ["thing"], i_is_int, false⟩
def i_is_within : Fn := ⟨3, 3,
  (.seq (.ret (.and (.call "is_int" (.cons (.loc 0) .nil)) (.cmp2 .LtE .LtE (.loc 1) (.loc 0) (.loc 2))))
  .skip)⟩
def n_is_within (top : Nat → Stmt) : Ent := ⟨"is_within", top 8, ["thing", "least", "greatest"], ["thing", "least", "greatest"], i_is_within, false⟩
def b_divisor_1 : S := (.seq (.par [0, 1] (.cons (.loc 1) (.cons (.bin .Sub (.loc 0) (.bin .Mult (.bin .FloorDiv (.loc 0) (.loc 1)) (.loc 1))) .nil)))
  .skip)
def i_divisor : Fn := ⟨2, 2,
  (.seq (.whl (.cmp .NotEq (.loc 1) (.cI 0))
  b_divisor_1)
  (.seq (.ret (.blt .abs (.cons (.loc 0) .nil)))
  .skip))⟩
def n_divisor (top : Nat → Stmt) : Ent := ⟨"divisor", top 9, ["one", "other"], ["one", "other"], i_divisor, false⟩
def b_multiple_1 : S := (.seq (.ite (.cmp .NotEq (.bin .Mult (.bin .FloorDiv (.loc 1) (.loc 2)) (.loc 2)) (.loc 1))
  (.seq (.set (.nm 1) (.bin .Mult (.bin .FloorDiv (.loc 1) (.call "divisor" (.cons (.loc 1) (.cons (.loc 2) .nil)))) (.loc 2)))
  .skip)
  .skip)
  .skip)
def i_multiple : Fn := ⟨1, 3,
  (.seq (.set (.nm 1) (.cI 1))
  (.seq (.for (.nm 2) (.itr (.loc 0))
  b_multiple_1)
  (.seq (.ret (.loc 1))
  .skip)))⟩
def n_multiple (top : Nat → Stmt) : Ent := ⟨"multiple", top 10, ["numbers"], ["numbers", "found", "number"], i_multiple, false⟩
def i_fraction : Fn := ⟨2, 3,
  (.seq (.ite (.cmp .Eq (.loc 1) (.cI 1))
  (.seq (.ret (.tup (.cons (.loc 0) (.cons (.cI 1) .nil))))
  .skip)
  .skip)
  (.seq (.set (.nm 2) (.call "divisor" (.cons (.loc 0) (.cons (.loc 1) .nil))))
  (.seq (.ite (.cmp .Lt (.loc 1) (.cI 0))
  (.seq (.set (.nm 2) (.neg (.loc 2)))
  .skip)
  .skip)
  (.seq (.ret (.tup (.cons (.bin .FloorDiv (.loc 0) (.loc 2)) (.cons (.bin .FloorDiv (.loc 1) (.loc 2)) .nil))))
  .skip))))⟩
def n_fraction (top : Nat → Stmt) : Ent := ⟨"fraction", top 11, ["n", "d"], ["n", "d", "common"], i_fraction, false⟩
def i_is_fraction : Fn := ⟨1, 1,
  (.seq (.ite (.tor (.tnot (.tru (.isi (.loc 0) .tuple))) (.tor (.cmp .NotEq (.len (.loc 0)) (.cI 2)) (.tor (.tnot (.tru (.call "is_int" (.cons (.idx (.loc 0) (.cI 0)) .nil)))) (.tnot (.tru (.call "is_int" (.cons (.idx (.loc 0) (.cI 1)) .nil)))))))
  (.seq (.ret (.cB false))
  .skip)
  .skip)
  (.seq (.ret (.and (.cmp .GtE (.idx (.loc 0) (.cI 1)) (.cI 1)) (.cmp .Eq (.call "divisor" (.cons (.idx (.loc 0) (.cI 0)) (.cons (.idx (.loc 0) (.cI 1)) .nil))) (.cI 1))))
  .skip))⟩
def n_is_fraction (top : Nat → Stmt) : Ent := ⟨"is_fraction", top 12, ["thing"], ["thing"], i_is_fraction, false⟩
def i_add : Fn := ⟨2, 2,
  (.seq (.ite (.cmp .Eq (.idx (.loc 0) (.cI 1)) (.idx (.loc 1) (.cI 1)))
  (.seq (.ret (.call "fraction" (.cons (.bin .Add (.idx (.loc 0) (.cI 0)) (.idx (.loc 1) (.cI 0))) (.cons (.idx (.loc 0) (.cI 1)) .nil))))
  .skip)
  .skip)
  (.seq (.ret (.call "fraction" (.cons (.bin .Add (.bin .Mult (.idx (.loc 0) (.cI 0)) (.idx (.loc 1) (.cI 1))) (.bin .Mult (.idx (.loc 1) (.cI 0)) (.idx (.loc 0) (.cI 1)))) (.cons (.bin .Mult (.idx (.loc 0) (.cI 1)) (.idx (.loc 1) (.cI 1))) .nil))))
  .skip))⟩
def n_add (top : Nat → Stmt) : Ent := ⟨"add", top 13, ["one", "other"], ["one", "other"], i_add, false⟩
def i_negative : Fn := ⟨1, 1,
  (.seq (.ret (.tup (.cons (.neg (.idx (.loc 0) (.cI 0))) (.cons (.idx (.loc 0) (.cI 1)) .nil))))
  .skip)⟩
def n_negative (top : Nat → Stmt) : Ent := ⟨"negative", top 14, ["one"], ["one"], i_negative, false⟩
def i_less_by : Fn := ⟨2, 2,
  (.seq (.ret (.call "add" (.cons (.loc 0) (.cons (.call "negative" (.cons (.loc 1) .nil)) .nil))))
  .skip)⟩
def n_less_by (top : Nat → Stmt) : Ent := ⟨"less_by", top 15, ["one", "other"], ["one", "other"], i_less_by, false⟩
def i_product : Fn := ⟨2, 2,
  (.seq (.ite (.tor (.cmp .Eq (.idx (.loc 0) (.cI 0)) (.cI 0)) (.cmp .Eq (.idx (.loc 1) (.cI 0)) (.cI 0)))
  (.seq (.ret (.glb "ZERO"))
  .skip)
  .skip)
  (.seq (.ret (.call "fraction" (.cons (.bin .Mult (.idx (.loc 0) (.cI 0)) (.idx (.loc 1) (.cI 0))) (.cons (.bin .Mult (.idx (.loc 0) (.cI 1)) (.idx (.loc 1) (.cI 1))) .nil))))
  .skip))⟩
def n_product (top : Nat → Stmt) : Ent := ⟨"product", top 16, ["one", "other"], ["one", "other"], i_product, false⟩
def i_is_less : Fn := ⟨2, 2,
  (.seq (.ret (.cmp .Lt (.bin .Mult (.idx (.loc 0) (.cI 0)) (.idx (.loc 1) (.cI 1))) (.bin .Mult (.idx (.loc 1) (.cI 0)) (.idx (.loc 0) (.cI 1)))))
  .skip)⟩
def n_is_less (top : Nat → Stmt) : Ent := ⟨"is_less", top 17, ["one", "other"], ["one", "other"], i_is_less, false⟩
def i_lesser : Fn := ⟨2, 2,
  (.seq (.ret (.ite (.tru (.call "is_less" (.cons (.loc 1) (.cons (.loc 0) .nil)))) (.loc 1) (.loc 0)))
  .skip)⟩
def n_lesser (top : Nat → Stmt) : Ent := ⟨"lesser", top 18, ["one", "other"], ["one", "other"], i_lesser, false⟩
def b_total_1 : S := (.seq (.set (.nm 1) (.call "add" (.cons (.loc 1) (.cons (.loc 2) .nil))))
  .skip)
def i_total : Fn := ⟨1, 3,
  (.seq (.set (.nm 1) (.glb "ZERO"))
  (.seq (.for (.nm 2) (.itr (.loc 0))
  b_total_1)
  (.seq (.ret (.loc 1))
  .skip)))⟩
def n_total (top : Nat → Stmt) : Ent := ⟨"total", top 19, ["parts"], ["parts", "found", "part"], i_total, false⟩
def c_dot_1 : E := (.call "product" (.cons (.loc 2) (.cons (.loc 3) .nil)))
def i_dot : Fn := ⟨2, 4,
  (.seq (.ret (.call "total" (.cons (.comp [2, 3] c_dot_1 (.cons (.nm 2) (.cons (.nm 3) .nil)) (.zip2 (.loc 0) (.loc 1)) (.cB true)) .nil)))
  .skip)⟩
def n_dot (top : Nat → Stmt) : Ent := ⟨"dot", top 20, ["row", "other"], ["row", "other", "a", "b"], i_dot, false⟩
def i_is_share : Fn := ⟨1, 1,
  (.seq (.ret (.and (.call "is_fraction" (.cons (.loc 0) .nil)) (.cmp2 .LtE .LtE (.cI 0) (.idx (.loc 0) (.cI 0)) (.idx (.loc 0) (.cI 1)))))
  .skip)⟩
def n_is_share (top : Nat → Stmt) : Ent := ⟨"is_share", top 26, ["thing"], ["thing"], i_is_share, false⟩
def i_is_bound : Fn := ⟨1, 1,
  (.seq (.ret (.and (.call "is_share" (.cons (.loc 0) .nil)) (.cmp .LtE (.idx (.loc 0) (.cI 1)) (.glb "MOST_UNDER"))))
  .skip)⟩
def n_is_bound (top : Nat → Stmt) : Ent := ⟨"is_bound", top 27, ["thing"], ["thing"], i_is_bound, false⟩
def i_is_part_alone : Fn := ⟨1, 1,
  (.seq (.ite (.tor (.tnot (.tru (.isi (.loc 0) .tuple))) (.cmp .NotEq (.len (.loc 0)) (.cI 3)))
  (.seq (.ret (.cB false))
  .skip)
  .skip)
  (.seq (.ret (.and (.call "is_bound" (.cons (.idx (.loc 0) (.cI 0)) .nil)) (.and (.call "is_bound" (.cons (.idx (.loc 0) (.cI 1)) .nil)) (.not (.call "is_less" (.cons (.idx (.loc 0) (.cI 1)) (.cons (.idx (.loc 0) (.cI 0)) .nil)))))))
  .skip))⟩
def n_is_part_alone (top : Nat → Stmt) : Ent := ⟨"is_part_alone", top 28, ["thing"], ["thing"], i_is_part_alone, false⟩
def c_found_bins_1 : E := (.cmp .In (.loc 5) (.loc 2))
def b_found_bins_1 : S := (.seq (.set (.nm 4) (.ite (.tru (.call "is_part_alone" (.cons (.loc 3) .nil))) (.call "found_bins" (.cons (.idx (.loc 3) (.cI 2)) (.cons (.bin .Sub (.loc 1) (.cI 1)) .nil))) .cN))
  (.seq (.ite (.tor (.isN (.loc 4)) (.tru (.blt .any (.cons (.comp [5] c_found_bins_1 (.nm 5) (.itr (.loc 4)) (.cB true)) .nil))))
  (.seq (.ret .cN)
  .skip)
  .skip)
  (.seq (.set (.nm 2) (.bin .Add (.loc 2) (.loc 4)))
  .skip)))
def c_found_bins_2 : E := (.idx (.loc 3) (.cI 0))
def c_found_bins_3 : E := (.idx (.loc 3) (.cI 1))
def i_found_bins : Fn := ⟨2, 6,
  (.seq (.ite (.tru (.call "is_within" (.cons (.loc 0) (.cons (.cI 0) (.cons (.glb "MOST_BIN") .nil)))))
  (.seq (.ret (.lst (.cons (.loc 0) .nil)))
  .skip)
  .skip)
  (.seq (.ite (.tor (.cmp .Eq (.loc 1) (.cI 0)) (.tor (.tnot (.tru (.isi (.loc 0) .tuple))) (.tnot (.cmp2 .LtE .LtE (.cI 1) (.len (.loc 0)) (.glb "MOST_PARTS")))))
  (.seq (.ret .cN)
  .skip)
  .skip)
  (.seq (.set (.nm 2) (.lst .nil))
  (.seq (.for (.nm 3) (.itr (.loc 0))
  b_found_bins_1)
  (.seq (.ite (.tor (.tru (.call "is_less" (.cons (.glb "ONE") (.cons (.call "total" (.cons (.comp [3] c_found_bins_2 (.nm 3) (.itr (.loc 0)) (.cB true)) .nil)) .nil)))) (.tru (.call "is_less" (.cons (.call "total" (.cons (.comp [3] c_found_bins_3 (.nm 3) (.itr (.loc 0)) (.cB true)) .nil)) (.cons (.glb "ONE") .nil)))))
  (.seq (.ret .cN)
  .skip)
  .skip)
  (.seq (.ret (.loc 2))
  .skip))))))⟩
def n_found_bins (top : Nat → Stmt) : Ent := ⟨"found_bins", top 29, ["thing", "depth_left"], ["thing", "depth_left", "found", "part", "below", "one"], i_found_bins, false⟩
def i_is_recipe : Fn := ⟨1, 1,
  (.seq (.ret (.notN (.call "found_bins" (.cons (.loc 0) (.cons (.glb "MOST_DEPTH") .nil)))))
  .skip)⟩
def n_is_recipe (top : Nat → Stmt) : Ent := ⟨"is_recipe", top 30, ["thing"], ["thing"], i_is_recipe, false⟩
def i_check_recipe : Fn := ⟨1, 1,
  (.seq (.ite (.tnot (.tru (.call "is_recipe" (.cons (.loc 0) .nil))))
  (.seq (.raise "BadRecipe")
  .skip)
  .skip)
  .skip)⟩
def n_check_recipe (top : Nat → Stmt) : Ent := ⟨"check_recipe", top 31, ["thing"], ["thing"], i_check_recipe, false⟩
def i_recipe_bins : Fn := ⟨1, 3,
  (.seq (.ite (.tru (.call "is_int" (.cons (.loc 0) .nil)))
  (.seq (.ret (.lst (.cons (.loc 0) .nil)))
  .skip)
  .skip)
  (.seq (.ret (.comp2 [1, 2] [2] (.loc 2) (.nm 1) (.itr (.loc 0)) (.cB true) (.nm 2) (.itr (.call "recipe_bins" (.cons (.idx (.loc 1) (.cI 2)) .nil))) (.cB true)))
  .skip))⟩
def n_recipe_bins (top : Nat → Stmt) : Ent := ⟨"recipe_bins", top 32, ["recipe"], ["recipe", "part", "one"], i_recipe_bins, false⟩
def c_is_prices_1 : E := (.call "is_fraction" (.cons (.loc 1) .nil))
def i_is_prices : Fn := ⟨1, 2,
  (.seq (.ite (.tor (.tnot (.tru (.isi (.loc 0) .tuple))) (.tnot (.cmp2 .LtE .LtE (.cI 1) (.len (.loc 0)) (.glb "MOST_PRICES"))))
  (.seq (.ret (.cB false))
  .skip)
  .skip)
  (.seq (.ret (.blt .all (.cons (.comp [1] c_is_prices_1 (.nm 1) (.itr (.loc 0)) (.cB true)) .nil)))
  .skip))⟩
def n_is_prices (top : Nat → Stmt) : Ent := ⟨"is_prices", top 35, ["thing"], ["thing", "part"], i_is_prices, false⟩
def i_check_prices : Fn := ⟨2, 2,
  (.seq (.exp (.call "check_recipe" (.cons (.loc 0) .nil)))
  (.seq (.ite (.tor (.tnot (.tru (.call "is_prices" (.cons (.loc 1) .nil)))) (.cmp .GtE (.blt .max (.cons (.call "recipe_bins" (.cons (.loc 0) .nil)) .nil)) (.len (.loc 1))))
  (.seq (.raise "BadPrices")
  .skip)
  .skip)
  .skip))⟩
def n_check_prices (top : Nat → Stmt) : Ent := ⟨"check_prices", top 36, ["recipe", "prices"], ["recipe", "prices"], i_check_prices, false⟩
def c_by_value_1 : E := (.idx (.loc 4) (.cI 1))
def c_by_value_2 : E := (.loc 3)
def c_by_value_3 : E := (.tup (.cons (.bin .Mult (.idx (.loc 4) (.cI 0)) (.bin .FloorDiv (.loc 1) (.idx (.loc 4) (.cI 1)))) (.cons (.loc 3) .nil)))
def i_by_value : Fn := ⟨1, 5,
  (.seq (.set (.nm 1) (.call "multiple" (.cons (.comp [4] c_by_value_1 (.nm 4) (.itr (.loc 0)) (.cB true)) .nil)))
  (.seq (.ret (.comp [2, 3] c_by_value_2 (.cons (.nm 2) (.cons (.nm 3) .nil)) (.itr (.blt .sorted (.cons (.comp [3, 4] c_by_value_3 (.cons (.nm 3) (.cons (.nm 4) .nil)) (.enm (.loc 0)) (.cB true)) .nil))) (.cB true)))
  .skip))⟩
def n_by_value (top : Nat → Stmt) : Ent := ⟨"by_value", top 37, ["values"], ["values", "common", "key", "at", "part"], i_by_value, false⟩
def c_filled_1 : E := (.idx (.loc 7) (.cI 0))
def b_filled_1 : S := (.seq (.ite (.tor (.isN (.loc 4)) (.cmp .Gt (.idx (.loc 3) (.cI 0)) (.cI 0)))
  (.seq (.set (.nm 4) (.idx (.loc 1) (.loc 5)))
  .skip)
  .skip)
  (.seq (.set (.nm 6) (.call "lesser" (.cons (.loc 3) (.cons (.call "less_by" (.cons (.idx (.idx (.loc 0) (.loc 5)) (.cI 1)) (.cons (.idx (.idx (.loc 0) (.loc 5)) (.cI 0)) .nil))) .nil))))
  (.seq (.put (.loc 2) (.loc 5) (.call "add" (.cons (.idx (.loc 2) (.loc 5)) (.cons (.loc 6) .nil))))
  (.seq (.set (.nm 3) (.call "less_by" (.cons (.loc 3) (.cons (.loc 6) .nil))))
  .skip))))
def i_filled : Fn := ⟨2, 8,
  (.seq (.set (.nm 2) (.comp [7] c_filled_1 (.nm 7) (.itr (.loc 0)) (.cB true)))
  (.seq (.par [3, 4] (.cons (.call "less_by" (.cons (.glb "ONE") (.cons (.call "total" (.cons (.loc 2) .nil)) .nil))) (.cons .cN .nil)))
  (.seq (.for (.nm 5) (.itr (.call "by_value" (.cons (.loc 1) .nil)))
  b_filled_1)
  (.seq (.ret (.tup (.cons (.loc 2) (.cons (.loc 4) .nil))))
  .skip))))⟩
def n_filled (top : Nat → Stmt) : Ent := ⟨"filled", top 38, ["recipe", "values"], ["recipe", "values", "shares", "left", "level", "at", "more", "part"], i_filled, false⟩
def c_least_cost_1 : E := (.call "least_cost" (.cons (.idx (.loc 3) (.cI 2)) (.cons (.loc 1) .nil)))
def i_least_cost : Fn := ⟨2, 4,
  (.seq (.ite (.tru (.call "is_int" (.cons (.loc 0) .nil)))
  (.seq (.ret (.idx (.loc 1) (.loc 0)))
  .skip)
  .skip)
  (.seq (.set (.nm 2) (.comp [3] c_least_cost_1 (.nm 3) (.itr (.loc 0)) (.cB true)))
  (.seq (.ret (.call "dot" (.cons (.idx (.call "filled" (.cons (.loc 0) (.cons (.loc 2) .nil))) (.cI 0)) (.cons (.loc 2) .nil))))
  .skip)))⟩
def n_least_cost (top : Nat → Stmt) : Ent := ⟨"least_cost", top 39, ["recipe", "prices"], ["recipe", "prices", "values", "part"], i_least_cost, false⟩
def c_is_paper_of_1 : E := (.call "is_paper_of" (.cons (.idx (.loc 2) (.cI 2)) (.cons (.loc 3) .nil)))
def i_is_paper_of : Fn := ⟨2, 4,
  (.seq (.ite (.tru (.call "is_int" (.cons (.loc 0) .nil)))
  (.seq (.ret (.isN (.loc 1)))
  .skip)
  .skip)
  (.seq (.ite (.tor (.tnot (.tru (.isi (.loc 1) .tuple))) (.tor (.cmp .NotEq (.len (.loc 1)) (.cI 2)) (.tnot (.tru (.call "is_fraction" (.cons (.idx (.loc 1) (.cI 0)) .nil))))))
  (.seq (.ret (.cB false))
  .skip)
  .skip)
  (.seq (.ite (.tor (.tnot (.tru (.isi (.idx (.loc 1) (.cI 1)) .tuple))) (.cmp .NotEq (.len (.idx (.loc 1) (.cI 1))) (.len (.loc 0))))
  (.seq (.ret (.cB false))
  .skip)
  .skip)
  (.seq (.ret (.blt .all (.cons (.comp [2, 3] c_is_paper_of_1 (.cons (.nm 2) (.cons (.nm 3) .nil)) (.zip2 (.loc 0) (.idx (.loc 1) (.cI 1))) (.cB true)) .nil)))
  .skip))))⟩
def n_is_paper_of (top : Nat → Stmt) : Ent := ⟨"is_paper_of", top 40, ["recipe", "thing"], ["recipe", "thing", "part", "paper"], i_is_paper_of, false⟩
def i_is_paper : Fn := ⟨2, 2,
  (.seq (.exp (.call "check_recipe" (.cons (.loc 0) .nil)))
  (.seq (.ret (.call "is_paper_of" (.cons (.loc 0) (.cons (.loc 1) .nil))))
  .skip))⟩
def n_is_paper (top : Nat → Stmt) : Ent := ⟨"is_paper", top 41, ["recipe", "thing"], ["recipe", "thing"], i_is_paper, false⟩
def b_worth_of_1 : S := (.seq (.set (.nm 8) (.call "less_by" (.cons (.call "worth_of" (.cons (.idx (.loc 6) (.cI 2)) (.cons (.loc 1) (.cons (.loc 7) .nil)))) (.cons (.loc 3) .nil))))
  (.seq (.set (.nm 5) (.call "add" (.cons (.loc 5) (.cons (.call "product" (.cons (.ite (.cmp .Gt (.idx (.loc 8) (.cI 0)) (.cI 0)) (.idx (.loc 6) (.cI 0)) (.idx (.loc 6) (.cI 1))) (.cons (.loc 8) .nil))) .nil))))
  .skip))
def i_worth_of : Fn := ⟨3, 9,
  (.seq (.ite (.tru (.call "is_int" (.cons (.loc 0) .nil)))
  (.seq (.ret (.idx (.loc 1) (.loc 0)))
  .skip)
  .skip)
  (.seq (.set (.cons (.nm 3) (.cons (.nm 4) .nil)) (.loc 2))
  (.seq (.set (.nm 5) (.loc 3))
  (.seq (.for (.cons (.nm 6) (.cons (.nm 7) .nil)) (.zip2 (.loc 0) (.loc 4))
  b_worth_of_1)
  (.seq (.ret (.loc 5))
  .skip)))))⟩
def n_worth_of (top : Nat → Stmt) : Ent := ⟨"worth_of", top 42, ["recipe", "prices", "paper"], ["recipe", "prices", "paper", "level", "papers", "found", "part", "below", "over"], i_worth_of, false⟩
def i_is_floor : Fn := ⟨3, 3,
  (.seq (.exp (.call "check_prices" (.cons (.loc 0) (.cons (.loc 1) .nil))))
  (.seq (.ret (.and (.call "is_paper_of" (.cons (.loc 0) (.cons (.loc 2) .nil))) (.cmp .Eq (.call "worth_of" (.cons (.loc 0) (.cons (.loc 1) (.cons (.loc 2) .nil)))) (.call "least_cost" (.cons (.loc 0) (.cons (.loc 1) .nil))))))
  .skip))⟩
def n_is_floor (top : Nat → Stmt) : Ent := ⟨"is_floor", top 43, ["recipe", "prices", "thing"], ["recipe", "prices", "thing"], i_is_floor, false⟩
def c__law_hand_1 : E := (.bin .Mod (.blt .int (.cons (.blt .abs (.cons (.blt .int (.cons (.loc 1) .nil)) .nil)) .nil)) (.bin .Pow (.cI 10) (.cI 36)))
def i__law_hand : Fn := ⟨1, 2,
  (.seq (.ret (.cell (.lst (.cons (.comp [1] c__law_hand_1 (.nm 1) (.itr (.slc (.loc 0) .no (.yes (.cI 63)))) (.cB true)) (.cons (.cI 0) (.cons (.cI 0) (.cons (.bin .Add (.cI 10303) (.bin .Mult (.cI 59) (.len (.slc (.loc 0) .no (.yes (.cI 63)))))) (.cons (.cI 0) .nil))))))))
  .skip)⟩
def n__law_hand (top : Nat → Stmt) : Ent := ⟨"_law_hand", top 45, ["script"], ["script", "cell"], i__law_hand, false⟩
def i__law_draw : Fn := ⟨2, 5,
  (.seq (.ite (.tand (.cmp .Eq (.idx (.loc 0) (.cI 2)) (.cI 0)) (.cmp .Lt (.idx (.loc 0) (.cI 1)) (.len (.idx (.loc 0) (.cI 0)))))
  (.seq (.set (.nm 3) (.idx (.idx (.loc 0) (.cI 0)) (.idx (.loc 0) (.cI 1))))
  (.seq (.put (.loc 0) (.cI 1) (.bin .Add (.idx (.loc 0) (.cI 1)) (.cI 1)))
  (.seq (.put (.loc 0) (.cI 3) (.bin .Mod (.blt .int (.cons (.bin .Add (.bin .Add (.bin .Mult (.idx (.loc 0) (.cI 3)) (.cI 69621)) (.bin .Mult (.loc 3) (.cI 40692))) (.cI 733)) .nil)) (.cI 2147483629)))
  (.seq (.ite (.cmp .GtE (.loc 3) (.bin .Pow (.cI 10) (.cI 18)))
  (.seq (.put (.loc 0) (.cI 2) (.loc 3))
  .skip)
  .skip)
  .skip))))
  .skip)
  (.seq (.ite (.cmp .Gt (.idx (.loc 0) (.cI 2)) (.cI 0))
  (.seq (.set (.nm 4) (.bin .Mod (.blt .int (.cons (.idx (.loc 0) (.cI 2)) .nil)) (.loc 1)))
  (.seq (.put (.loc 0) (.cI 2) (.bin .FloorDiv (.idx (.loc 0) (.cI 2)) (.loc 1)))
  (.seq (.ret (.loc 4))
  .skip)))
  .skip)
  (.seq (.put (.loc 0) (.cI 4) (.bin .Add (.idx (.loc 0) (.cI 4)) (.cI 1)))
  (.seq (.set (.nm 2) (.bin .Mod (.blt .int (.cons (.bin .Mult (.blt .int (.cons (.bin .Add (.idx (.loc 0) (.cI 3)) (.bin .Mult (.cI 7919) (.idx (.loc 0) (.cI 4)))) .nil)) (.cI 48271)) .nil)) (.cI 2147483647)))
  (.seq (.set (.nm 2) (.bin .Mod (.blt .int (.cons (.bin .Mult (.loc 2) (.bin .Add (.bin .FloorDiv (.loc 2) (.cI 1009)) (.cI 69621))) .nil)) (.cI 2147483647)))
  (.seq (.set (.nm 2) (.bin .Mod (.blt .int (.cons (.bin .Mult (.loc 2) (.bin .Add (.bin .FloorDiv (.loc 2) (.cI 2003)) (.cI 40014))) .nil)) (.cI 2147483563)))
  (.seq (.ret (.bin .Mod (.blt .int (.cons (.bin .FloorDiv (.loc 2) (.cI 16)) .nil)) (.loc 1)))
  .skip)))))))⟩
def n__law_draw (top : Nat → Stmt) : Ent := ⟨"_law_draw", top 46, ["hand", "many"], ["hand", "many", "number", "cell", "digit"], i__law_draw, false⟩
def i__law_any : Fn := ⟨2, 2,
  (.seq (.ret (.idx (.loc 1) (.call "_law_draw" (.cons (.loc 0) (.cons (.len (.loc 1)) .nil)))))
  .skip)⟩
def n__law_any (top : Nat → Stmt) : Ent := ⟨"_law_any", top 47, ["hand", "some"], ["hand", "some"], i__law_any, false⟩
def b__law_frac_1 : S := (.seq (.par [2, 3] (.cons (.loc 3) (.cons (.bin .Mod (.blt .int (.cons (.loc 2) .nil)) (.loc 3)) .nil)))
  .skip)
def i__law_frac : Fn := ⟨2, 4,
  (.seq (.par [2, 3] (.cons (.blt .abs (.cons (.loc 0) .nil)) (.cons (.loc 1) .nil)))
  (.seq (.whl (.cmp .Gt (.loc 3) (.cI 0))
  b__law_frac_1)
  (.seq (.ret (.tup (.cons (.bin .FloorDiv (.loc 0) (.loc 2)) (.cons (.bin .FloorDiv (.loc 1) (.loc 2)) .nil))))
  .skip)))⟩
def n__law_frac (top : Nat → Stmt) : Ent := ⟨"_law_frac", top 48, ["top", "bottom"], ["top", "bottom", "one", "other"], i__law_frac, false⟩
def b__law_recipe_1 : S := (.seq (.set (.nm 14) (.ite (.cmp .Eq (.bin .Add (.loc 7) (.cI 1)) (.loc 4)) (.len (.loc 5)) (.bin .Add (.cI 1) (.call "_law_draw" (.cons (.loc 0) (.cons (.bin .Sub (.len (.loc 5)) (.bin .Sub (.bin .Sub (.loc 4) (.loc 7)) (.cI 1))) .nil))))))
  (.seq (.par [6, 5] (.cons (.bin .Add (.loc 6) (.lst (.cons (.slc (.loc 5) .no (.yes (.loc 14))) .nil))) (.cons (.slc (.loc 5) (.yes (.loc 14)) .no) .nil)))
  .skip))
def c__law_recipe_1 : E := (.call "_law_draw" (.cons (.loc 0) (.cons (.bin .Add (.loc 8) (.cI 1)) .nil)))
def c__law_recipe_2 : E := (.bin .Sub (.loc 19) (.loc 18))
def b__law_recipe_2 : S := (.seq (.set (.nm 15) (.call "_law_any" (.cons (.loc 0) (.cons (.lst (.cons (.cI 0) (.cons (.cI 0) (.cons (.loc 12) (.cons (.call "_law_draw" (.cons (.loc 0) (.cons (.bin .Add (.loc 12) (.cI 1)) .nil))) (.cons (.call "_law_draw" (.cons (.loc 0) (.cons (.bin .Add (.loc 12) (.cI 1)) .nil))) .nil)))))) .nil))))
  (.seq (.set (.nm 16) (.bin .Add (.loc 12) (.call "_law_draw" (.cons (.loc 0) (.cons (.bin .Add (.bin .Sub (.loc 8) (.loc 12)) (.cI 1)) .nil)))))
  (.seq (.set (.nm 16) (.call "_law_any" (.cons (.loc 0) (.cons (.lst (.cons (.loc 8) (.cons (.loc 8) (.cons (.loc 12) (.cons (.loc 16) (.cons (.loc 16) .nil)))))) .nil))))
  (.seq (.set (.nm 17) (.call "_law_recipe" (.cons (.loc 0) (.cons (.bin .Sub (.loc 1) (.cI 1)) (.cons (.loc 13) (.cons (.loc 3) .nil))))))
  (.seq (.exp (.mth .append (.loc 11) (.cons (.tup (.cons (.call "_law_frac" (.cons (.loc 15) (.cons (.loc 8) .nil))) (.cons (.call "_law_frac" (.cons (.loc 16) (.cons (.loc 8) .nil))) (.cons (.loc 17) .nil)))) .nil)))
  .skip)))))
def i__law_recipe : Fn := ⟨4, 20,
  (.seq (.ite (.tor (.cmp .Eq (.loc 1) (.cI 0)) (.tand (.cmp .Eq (.len (.loc 2)) (.cI 1)) (.cmp .Gt (.call "_law_draw" (.cons (.loc 0) (.cons (.cI 3) .nil))) (.cI 0))))
  (.seq (.ret (.idx (.loc 2) (.cI 0)))
  .skip)
  .skip)
  (.seq (.par [4, 5, 6] (.cons (.blt .min (.cons (.len (.loc 2)) (.cons (.call "_law_any" (.cons (.loc 0) (.cons (.lst (.cons (.cI 1) (.cons (.cI 2) (.cons (.cI 2) (.cons (.cI 3) (.cons (.cI 3) (.cons (.cI 4) .nil))))))) .nil))) .nil))) (.cons (.blt .list (.cons (.loc 2) .nil)) (.cons (.lst .nil) .nil))))
  (.seq (.for (.nm 7) (.rng1 (.loc 4))
  b__law_recipe_1)
  (.seq (.set (.nm 8) (.call "_law_any" (.cons (.loc 0) (.cons (.loc 3) .nil))))
  (.seq (.set (.nm 9) (.blt .sorted (.cons (.comp [7] c__law_recipe_1 (.nm 7) (.rng1 (.bin .Sub (.loc 4) (.cI 1))) (.cB true)) .nil)))
  (.seq (.set (.nm 10) (.comp [18, 19] c__law_recipe_2 (.cons (.nm 18) (.cons (.nm 19) .nil)) (.zip2 (.bin .Add (.lst (.cons (.cI 0) .nil)) (.loc 9)) (.bin .Add (.loc 9) (.lst (.cons (.loc 8) .nil)))) (.cB true)))
  (.seq (.set (.nm 11) (.lst .nil))
  (.seq (.for (.cons (.nm 12) (.cons (.nm 13) .nil)) (.zip2 (.loc 10) (.loc 6))
  b__law_recipe_2)
  (.seq (.ret (.blt .tuple (.cons (.loc 11) .nil)))
  .skip)))))))))⟩
def n__law_recipe (top : Nat → Stmt) : Ent := ⟨"_law_recipe", top 49, ["hand", "deep", "bins", "bottoms"], ["hand", "deep", "bins", "bottoms", "many", "left", "lots", "at", "bottom", "cuts", "shares", "parts", "share", "lot", "wide", "least", "greatest", "inner", "low", "high"], i__law_recipe, false⟩
def c__law_drawn_1 : E := (.mth .pop (.loc 3) (.cons (.call "_law_draw" (.cons (.loc 0) (.cons (.len (.loc 3)) .nil))) .nil))
def i__law_drawn : Fn := ⟨3, 8,
  (.seq (.par [3, 4] (.cons (.rlst1 (.loc 2)) (.cons (.lst (.cons (.cI 1) (.cons (.cI 2) (.cons (.cI 3) (.cons (.cI 4) (.cons (.cI 5) (.cons (.cI 6) (.cons (.cI 8) (.cons (.cI 12) (.cons (.cI 60) (.cons (.cI 997) (.cons (.cI 1000) .nil)))))))))))) .nil)))
  (.seq (.set (.nm 5) (.call "_law_any" (.cons (.loc 0) (.cons (.lst (.cons (.loc 2) (.cons (.loc 2) (.cons (.bin .Add (.cI 1) (.call "_law_draw" (.cons (.loc 0) (.cons (.loc 2) .nil)))) .nil)))) .nil))))
  (.seq (.set (.nm 6) (.comp [7] c__law_drawn_1 (.nm 7) (.rng1 (.loc 5)) (.cB true)))
  (.seq (.ret (.call "_law_recipe" (.cons (.loc 0) (.cons (.call "_law_any" (.cons (.loc 0) (.cons (.lst (.cons (.loc 1) (.cons (.loc 1) (.cons (.bin .Add (.cI 1) (.call "_law_draw" (.cons (.loc 0) (.cons (.loc 1) .nil)))) .nil)))) .nil))) (.cons (.loc 6) (.cons (.loc 4) .nil))))))
  .skip))))⟩
def n__law_drawn (top : Nat → Stmt) : Ent := ⟨"_law_drawn", top 50, ["hand", "deep", "many"], ["hand", "deep", "many", "left", "bottoms", "some", "bins", "at"], i__law_drawn, false⟩
def c__law_bins_1 : E := (.call "_law_bins" (.cons (.loc 3) .nil))
def i__law_bins : Fn := ⟨1, 4,
  (.seq (.ret (.ite (.tru (.isi (.loc 0) .int)) (.lst (.cons (.loc 0) .nil)) (.blt .sum (.cons (.comp [1, 2, 3] c__law_bins_1 (.cons (.nm 1) (.cons (.nm 2) (.cons (.nm 3) .nil))) (.itr (.loc 0)) (.cB true)) (.cons (.lst .nil) .nil)))))
  .skip)⟩
def n__law_bins (top : Nat → Stmt) : Ent := ⟨"_law_bins", top 51, ["recipe"], ["recipe", "least", "greatest", "inner"], i__law_bins, false⟩
def i__law_is : Fn := ⟨2, 2,
  (.seq (.ret (.cmp .Eq (.blt .repr (.cons (.loc 0) .nil)) (.blt .repr (.cons (.loc 1) .nil))))
  .skip)⟩
def n__law_is (top : Nat → Stmt) : Ent := ⟨"_law_is", top 52, ["thing", "due"], ["thing", "due"], i__law_is, false⟩
def i__law_odd : Fn := ⟨1, 4,
  (.seq (.par [1, 2] (.cons (.tup (.cons (.cI 0) (.cons (.cI 1) .nil))) (.cons (.tup (.cons (.cI 1) (.cons (.cI 1) .nil))) .nil)))
  (.seq (.set (.nm 3) (.lst (.cons .cN (.cons (.neg (.cI 1)) (.cons (.cI 8) (.cons (.cB true) (.cons (.cS "0") (.cons (.tup .nil) (.cons (.tup (.cons (.tup (.cons (.loc 1) (.cons (.loc 2) .nil))) .nil)) (.cons (.tup (.cons (.tup (.cons (.loc 2) (.cons (.loc 1) (.cons (.cI 0) .nil)))) .nil)) (.cons (.tup (.cons (.tup (.cons (.loc 1) (.cons (.loc 2) (.cons (.cI 0) .nil)))) (.cons (.tup (.cons (.loc 1) (.cons (.loc 2) (.cons (.cI 0) .nil)))) .nil))) .nil)))))))))))
  (.seq (.set (.nm 3) (.bin .Add (.loc 3) (.lst (.cons (.lst (.cons (.tup (.cons (.loc 1) (.cons (.loc 2) (.cons (.cI 0) .nil)))) .nil)) (.cons (.tup (.cons (.tup (.cons (.loc 1) (.cons (.tup (.cons (.cI 1) (.cons (.cI 2) .nil))) (.cons (.cI 0) .nil)))) (.cons (.tup (.cons (.loc 1) (.cons (.tup (.cons (.cI 1) (.cons (.cI 3) .nil))) (.cons (.cI 1) .nil)))) .nil))) (.cons (.tup (.cons (.tup (.cons (.loc 1) (.cons (.loc 2) (.cons (.cI 9) .nil)))) .nil)) .nil))))))
  (.seq (.exp (.mth .append (.loc 3) (.cons (.tup (.cons (.tup (.cons (.loc 2) (.cons (.loc 2) (.cons (.cI 0) .nil)))) (.cons (.tup (.cons (.tup (.cons (.cI 1) (.cons (.cI 1001) .nil))) (.cons (.loc 2) (.cons (.cI 1) .nil)))) .nil))) .nil)))
  (.seq (.set (.nm 3) (.bin .Add (.loc 3) (.lst (.cons (.tup (.cons (.tup (.cons (.tup (.cons (.cI 0) (.cons (.cI 2) .nil))) (.cons (.loc 2) (.cons (.cI 0) .nil)))) .nil)) (.cons (.tup (.cons (.tup (.cons (.tup (.cons (.cI 1) (.cons (.cI 2) .nil))) (.cons (.tup (.cons (.cI 3) (.cons (.cI 2) .nil))) (.cons (.cI 0) .nil)))) .nil)) (.cons (.tup (.cons (.tup (.cons (.loc 1) (.cons (.loc 2) (.cons (.tup .nil) .nil)))) .nil)) .nil))))))
  (.seq (.ret (.call "_law_any" (.cons (.loc 0) (.cons (.loc 3) .nil))))
  .skip))))))⟩
def n__law_odd (top : Nat → Stmt) : Ent := ⟨"_law_odd", top 54, ["hand"], ["hand", "nought", "one", "some"], i__law_odd, false⟩
def c__law_paper_1 : E := (.call "_law_paper" (.cons (.loc 0) (.cons (.loc 5) .nil)))
def i__law_paper : Fn := ⟨2, 6,
  (.seq (.ite (.tru (.isi (.loc 1) .int))
  (.seq (.ret .cN)
  .skip)
  .skip)
  (.seq (.set (.nm 2) (.call "_law_frac" (.cons (.bin .Sub (.call "_law_draw" (.cons (.loc 0) (.cons (.cI 40) .nil))) (.cI 20)) (.cons (.bin .Add (.cI 1) (.call "_law_draw" (.cons (.loc 0) (.cons (.cI 9) .nil)))) .nil))))
  (.seq (.ret (.tup (.cons (.loc 2) (.cons (.blt .tuple (.cons (.comp [3, 4, 5] c__law_paper_1 (.cons (.nm 3) (.cons (.nm 4) (.cons (.nm 5) .nil))) (.itr (.loc 1)) (.cB true)) .nil)) .nil))))
  .skip)))⟩
def n__law_paper (top : Nat → Stmt) : Ent := ⟨"_law_paper", top 55, ["hand", "recipe"], ["hand", "recipe", "level", "least", "greatest", "inner"], i__law_paper, false⟩
def i__law_bent : Fn := ⟨2, 6,
  (.seq (.ite (.isN (.loc 1))
  (.seq (.ret (.call "_law_any" (.cons (.loc 0) (.cons (.lst (.cons (.tup .nil) (.cons (.cI 0) (.cons (.cB false) (.cons (.tup (.cons .cN .nil)) (.cons (.tup (.cons (.tup (.cons (.cI 1) (.cons (.cI 1) .nil))) (.cons (.tup .nil) .nil))) (.cons (.tup (.cons (.cI 1) (.cons (.cI 1) .nil))) (.cons (.cS "None") (.cons (.lst .nil) .nil))))))))) .nil))))
  .skip)
  .skip)
  (.seq (.set (.cons (.nm 2) (.cons (.nm 3) .nil)) (.loc 1))
  (.seq (.set (.nm 4) (.call "_law_draw" (.cons (.loc 0) (.cons (.len (.loc 3)) .nil))))
  (.seq (.set (.nm 5) (.lst (.cons (.tup (.cons (.loc 2) .nil)) (.cons (.tup (.cons (.loc 2) (.cons (.loc 3) (.cons .cN .nil)))) (.cons (.lst (.cons (.loc 2) (.cons (.loc 3) .nil))) (.cons (.tup (.cons (.loc 2) (.cons (.blt .list (.cons (.loc 3) .nil)) .nil))) (.cons (.tup (.cons (.loc 2) (.cons (.slc (.loc 3) (.yes (.cI 1)) .no) .nil))) (.cons (.loc 3) (.cons (.loc 2) .nil)))))))))
  (.seq (.set (.nm 5) (.bin .Add (.loc 5) (.lst (.cons (.tup (.cons (.loc 2) (.cons (.bin .Add (.loc 3) (.tup (.cons .cN .nil))) .nil))) (.cons (.tup (.cons (.tup (.cons (.bin .Mult (.cI 2) (.idx (.loc 2) (.cI 0))) (.cons (.bin .Mult (.cI 2) (.idx (.loc 2) (.cI 1))) .nil))) (.cons (.loc 3) .nil))) (.cons (.tup (.cons .cN (.cons (.loc 3) .nil))) .nil))))))
  (.seq (.exp (.mth .append (.loc 5) (.cons (.tup (.cons (.idx (.loc 2) (.cI 0)) (.cons (.loc 3) .nil))) .nil)))
  (.seq (.set (.nm 5) (.bin .Add (.loc 5) (.lst (.cons (.tup (.cons (.tup (.cons (.idx (.loc 2) (.cI 0)) (.cons (.bin .Sub (.cI 0) (.idx (.loc 2) (.cI 1))) .nil))) (.cons (.loc 3) .nil))) (.cons (.tup (.cons (.blt .list (.cons (.loc 2) .nil)) (.cons (.loc 3) .nil))) (.cons (.tup (.cons (.tup (.cons (.cB true) (.cons (.cI 1) .nil))) (.cons (.loc 3) .nil))) (.cons .cN (.cons (.tup (.cons (.loc 2) (.cons .cN .nil))) .nil))))))))
  (.seq (.set (.nm 5) (.bin .Add (.loc 5) (.bin .Mult (.lst (.cons (.tup (.cons (.loc 2) (.cons (.bin .Add (.bin .Add (.slc (.loc 3) .no (.yes (.loc 4))) (.tup (.cons (.call "_law_bent" (.cons (.loc 0) (.cons (.idx (.loc 3) (.loc 4)) .nil))) .nil))) (.slc (.loc 3) (.yes (.bin .Add (.loc 4) (.cI 1))) .no)) .nil))) .nil)) (.cI 12))))
  (.seq (.ret (.call "_law_any" (.cons (.loc 0) (.cons (.loc 5) .nil))))
  .skip)))))))))⟩
def n__law_bent (top : Nat → Stmt) : Ent := ⟨"_law_bent", top 56, ["hand", "paper"], ["hand", "paper", "level", "papers", "at", "some"], i__law_bent, false⟩
def c__law_is_shape_1 : E := (.and (.isi (.loc 4) .int) (.not (.isi (.loc 4) .bool)))
def c__law_is_shape_2 : E := (.call "_law_is_shape" (.cons (.idx (.loc 3) (.cI 2)) (.cons (.loc 4) .nil)))
def i__law_is_shape : Fn := ⟨2, 5,
  (.seq (.ite (.tru (.isi (.loc 0) .int))
  (.seq (.ret (.isN (.loc 1)))
  .skip)
  .skip)
  (.seq (.ite (.tor (.tnot (.tru (.isi (.loc 1) .tuple))) (.cmp .NotEq (.len (.loc 1)) (.cI 2)))
  (.seq (.ret (.cB false))
  .skip)
  .skip)
  (.seq (.ite (.tor (.tnot (.tru (.isi (.idx (.loc 1) (.cI 1)) .tuple))) (.cmp .NotEq (.len (.idx (.loc 1) (.cI 1))) (.len (.loc 0))))
  (.seq (.ret (.cB false))
  .skip)
  .skip)
  (.seq (.set (.nm 2) (.idx (.loc 1) (.cI 0)))
  (.seq (.ite (.tor (.tnot (.tru (.isi (.loc 2) .tuple))) (.cmp .NotEq (.len (.loc 2)) (.cI 2)))
  (.seq (.ret (.cB false))
  .skip)
  .skip)
  (.seq (.ite (.tnot (.tru (.blt .all (.cons (.comp [4] c__law_is_shape_1 (.nm 4) (.itr (.loc 2)) (.cB true)) .nil))))
  (.seq (.ret (.cB false))
  .skip)
  .skip)
  (.seq (.ite (.tor (.cmp .Lt (.idx (.loc 2) (.cI 1)) (.cI 1)) (.cmp .NotEq (.call "_law_frac" (.cons (.idx (.loc 2) (.cI 0)) (.cons (.idx (.loc 2) (.cI 1)) .nil))) (.loc 2)))
  (.seq (.ret (.cB false))
  .skip)
  .skip)
  (.seq (.ret (.blt .all (.cons (.comp [3, 4] c__law_is_shape_2 (.cons (.nm 3) (.cons (.nm 4) .nil)) (.zip2 (.loc 0) (.idx (.loc 1) (.cI 1))) (.cB true)) .nil)))
  .skip))))))))⟩
def n__law_is_shape (top : Nat → Stmt) : Ent := ⟨"_law_is_shape", top 57, ["recipe", "thing"], ["recipe", "thing", "level", "part", "one"], i__law_is_shape, false⟩
def b_law_1 : S := (.seq (.set (.nm 8) (.call "_law_bent" (.cons (.loc 1) (.cons (.loc 4) .nil))))
  (.seq (.set (.nm 9) (.call "_law_is_shape" (.cons (.loc 3) (.cons (.loc 8) .nil))))
  (.seq (.ite (.tnot (.tru (.call "_law_is" (.cons (.call "is_paper" (.cons (.loc 3) (.cons (.loc 8) .nil))) (.cons (.loc 9) .nil)))))
  (.seq (.ret (.cB false))
  .skip)
  .skip)
  (.seq (.ite (.tand (.tnot (.tru (.loc 9))) (.cmp .IsNot (.call "is_floor" (.cons (.loc 3) (.cons (.loc 5) (.cons (.loc 8) .nil)))) (.cB false)))
  (.seq (.ret (.cB false))
  .skip)
  .skip)
  .skip))))
def l_law_1 : E := (.call "is_paper" (.cons (.call "_law_odd" (.cons (.loc 1) .nil)) (.cons (.loc 4) .nil)))
def b_law_2 : S := (.seq (.set (.nm 3) (.call "_law_drawn" (.cons (.loc 1) (.cons (.call "_law_any" (.cons (.loc 1) (.cons (.lst (.cons (.cI 1) (.cons (.cI 3) (.cons (.cI 5) .nil)))) .nil))) (.cons (.bin .Add (.cI 1) (.call "_law_draw" (.cons (.loc 1) (.cons (.cI 8) .nil)))) .nil)))))
  (.seq (.set (.nm 4) (.call "_law_paper" (.cons (.loc 1) (.cons (.loc 3) .nil))))
  (.seq (.set (.nm 5) (.bin .Mult (.tup (.cons (.tup (.cons (.cI 1) (.cons (.cI 2) .nil))) .nil)) (.bin .Add (.blt .max (.cons (.call "_law_bins" (.cons (.loc 3) .nil)) .nil)) (.cI 1))))
  (.seq (.ite (.cmp .IsNot (.call "is_paper" (.cons (.loc 3) (.cons (.loc 4) .nil))) (.cB true))
  (.seq (.ret (.cB false))
  .skip)
  .skip)
  (.seq (.for (.nm 6) (.rng1 (.cI 8))
  b_law_1)
  (.seq (.set (.nm 7) (.call "_law_drawn" (.cons (.loc 1) (.cons (.cI 3) (.cons (.bin .Add (.cI 1) (.call "_law_draw" (.cons (.loc 1) (.cons (.cI 8) .nil)))) .nil)))))
  (.seq (.ite (.tnot (.tru (.call "_law_is" (.cons (.call "is_paper" (.cons (.loc 7) (.cons (.loc 4) .nil))) (.cons (.call "_law_is_shape" (.cons (.loc 7) (.cons (.loc 4) .nil))) .nil)))))
  (.seq (.ret (.cB false))
  .skip)
  .skip)
  (.seq (.ite (.cmp .NotEq (.lam "_law_word" "law" 0 l_law_1) (.cS "recipe"))
  (.seq (.ret (.cB false))
  .skip)
  .skip)
  .skip))))))))
def i_law : Fn := ⟨1, 10,
  (.seq (.set (.nm 1) (.call "_law_hand" (.cons (.loc 0) .nil)))
  (.seq (.for (.nm 2) (.rng1 (.cI 4))
  b_law_2)
  (.seq (.ret (.cB true))
  .skip)))⟩
def n_law (top : Nat → Stmt) : Ent := ⟨"law", top 58, ["script"], ["script", "hand", "turn", "recipe", "paper", "prices", "lap", "other", "bent", "flag"], i_law, true⟩
def w__law_word (top : Nat → Stmt) : Wnt := ⟨"_law_word", top 53, "call", ["call"], [("BadRecipe", "recipe"), ("BinError", "other")], "told"⟩
def md (top : Nat → Stmt) : Md := ⟨[n_is_int top, n_is_within top, n_divisor top, n_multiple top, n_fraction top, n_is_fraction top, n_add top, n_negative top, n_less_by top, n_product top, n_is_less top, n_lesser top, n_total top, n_dot top, n_is_share top, n_is_bound top, n_is_part_alone top, n_found_bins top, n_is_recipe top, n_check_recipe top, n_recipe_bins top, n_is_prices top, n_check_prices top, n_by_value top, n_filled top, n_least_cost top, n_is_paper_of top, n_is_paper top, n_worth_of top, n_is_floor top, n__law_hand top, n__law_draw top, n__law_any top, n__law_frac top, n__law_recipe top, n__law_drawn top, n__law_bins top, n__law_is top, n__law_odd top, n__law_paper top, n__law_bent top, n__law_is_shape top, n_law top],
  [("MOST_BIN", .int 7), ("MOST_DEPTH", .int 6), ("MOST_PARTS", .int 8), ("MOST_PRICES", .int 8), ("MOST_UNDER", .int 1000), ("ONE", .tup [.int 1, .int 1]), ("ZERO", .tup [.int 0, .int 1])],
  [w__law_word top],
  [("BadPrices", ["BadPrices", "BinError"]), ("BadRecipe", ["BadRecipe", "BinError"])]⟩
def ts : List Str := ["law"]
def gf : List Str := (["_law_any", "_law_bent", "_law_bins", "_law_draw", "_law_drawn", "_law_frac", "_law_hand", "_law_is", "_law_is_shape", "_law_odd", "_law_paper", "_law_recipe", "add", "by_value", "check_prices", "check_recipe", "divisor", "dot", "filled", "found_bins"] : List Str) ++ (["fraction", "is_bound", "is_floor", "is_fraction", "is_int", "is_less", "is_paper", "is_paper_of", "is_part_alone", "is_prices", "is_recipe", "is_share", "is_within", "least_cost", "less_by", "lesser", "multiple", "negative", "product", "recipe_bins"] : List Str) ++ (["total", "worth_of"] : List Str)
def gb : List Str := (["abs", "all", "any", "bool", "enumerate", "int", "isinstance", "len", "list", "max", "min", "range", "repr", "sorted", "sum", "tuple", "zip"] : List Str)
def gc : List Str := (["MOST_BIN", "MOST_DEPTH", "MOST_PARTS", "MOST_PRICES", "MOST_UNDER", "ONE", "ZERO"] : List Str)
def g (top : Nat → Stmt) : Gb := ⟨gf, gb, gc, ((md top).ws.map fun e => (e.name, e.hs, e.told)), (md top).cx⟩
instance {top : Nat → Stmt} : Lib.C_ZERO (md top) := ⟨rfl⟩
instance {top : Nat → Stmt} : Lib.C_MOST_UNDER (md top) := ⟨rfl⟩
instance {top : Nat → Stmt} : Lib.C_MOST_BIN (md top) := ⟨rfl⟩
instance {top : Nat → Stmt} : Lib.C_MOST_PARTS (md top) := ⟨rfl⟩
instance {top : Nat → Stmt} : Lib.C_ONE (md top) := ⟨rfl⟩
instance {top : Nat → Stmt} : Lib.C_MOST_DEPTH (md top) := ⟨rfl⟩
instance {top : Nat → Stmt} : Lib.C_MOST_PRICES (md top) := ⟨rfl⟩
instance {top : Nat → Stmt} : Lib.H_is_int (md top) where
  tb_is_int := rfl
instance {top : Nat → Stmt} : Lib.H_is_within (md top) where
  tb_is_within := rfl
instance {top : Nat → Stmt} : Lib.H_divisor (md top) where
  tb_divisor := rfl
instance {top : Nat → Stmt} : Lib.H_fraction (md top) where
  tb_fraction := rfl
instance {top : Nat → Stmt} : Lib.H_is_fraction (md top) where
  tb_is_fraction := rfl
instance {top : Nat → Stmt} : Lib.H_add (md top) where
  tb_add := rfl
instance {top : Nat → Stmt} : Lib.H_is_less (md top) where
  tb_is_less := rfl
instance {top : Nat → Stmt} : Lib.H_total (md top) where
  tb_total := rfl
instance {top : Nat → Stmt} : Lib.H_is_share (md top) where
  tb_is_share := rfl
instance {top : Nat → Stmt} : Lib.H_is_bound (md top) where
  tb_is_bound := rfl
instance {top : Nat → Stmt} : Lib.H_is_part_alone (md top) where
  tb_is_part_alone := rfl
instance {top : Nat → Stmt} : Lib.H_found_bins (md top) where
  tb_found_bins := rfl
instance {top : Nat → Stmt} : Lib.H_is_recipe (md top) where
  tb_is_recipe := rfl
instance {top : Nat → Stmt} : Lib.H_check_recipe (md top) where
  tb_check_recipe := rfl
instance {top : Nat → Stmt} : Lib.H_recipe_bins (md top) where
  tb_recipe_bins := rfl
instance {top : Nat → Stmt} : Lib.H__law_draw (md top) where
  tb__law_draw := rfl
instance {top : Nat → Stmt} : Lib.H__law_any (md top) where
  tb__law_any := rfl
instance {top : Nat → Stmt} : Lib.H__law_frac (md top) where
  tb__law_frac := rfl
instance {top : Nat → Stmt} : Lib.H__law_recipe (md top) where
  tb__law_recipe := rfl
instance {top : Nat → Stmt} : Lib.H__law_drawn (md top) where
  tb__law_drawn := rfl
instance {top : Nat → Stmt} : Lib.H__law_bins (md top) where
  tb__law_bins := rfl
instance {top : Nat → Stmt} : Lib.H__law_is (md top) where
  tb__law_is := rfl
instance {top : Nat → Stmt} : Lib.H__law_odd (md top) where
  tb__law_odd := rfl
instance {top : Nat → Stmt} : Lib.H_is_prices (md top) where
  tb_is_prices := rfl
instance {top : Nat → Stmt} : Lib.H_check_prices (md top) where
  tb_check_prices := rfl
instance {top : Nat → Stmt} : Lib.H_negative (md top) where
  tb_negative := rfl
instance {top : Nat → Stmt} : Lib.H_less_by (md top) where
  tb_less_by := rfl
instance {top : Nat → Stmt} : Lib.H_product (md top) where
  tb_product := rfl
instance {top : Nat → Stmt} : Lib.H_lesser (md top) where
  tb_lesser := rfl
instance {top : Nat → Stmt} : Lib.H_multiple (md top) where
  tb_multiple := rfl
instance {top : Nat → Stmt} : Lib.H_dot (md top) where
  tb_dot := rfl
instance {top : Nat → Stmt} : Lib.H_by_value (md top) where
  tb_by_value := rfl
instance {top : Nat → Stmt} : Lib.H_filled (md top) where
  tb_filled := rfl
instance {top : Nat → Stmt} : Lib.H_least_cost (md top) where
  tb_least_cost := rfl
instance {top : Nat → Stmt} : Lib.H_is_paper_of (md top) where
  tb_is_paper_of := rfl
instance {top : Nat → Stmt} : Lib.H_is_paper (md top) where
  tb_is_paper := rfl
instance {top : Nat → Stmt} : Lib.H_worth_of (md top) where
  tb_worth_of := rfl
instance {top : Nat → Stmt} : Lib.H_is_floor (md top) where
  tb_is_floor := rfl
instance {top : Nat → Stmt} : Lib.H__law_paper (md top) where
  tb__law_paper := rfl
instance {top : Nat → Stmt} : Lib.H__law_is_shape (md top) where
  tb__law_is_shape := rfl

end K13
set_option Elab.async false
set_option linter.all false
set_option maxRecDepth 100000
set_option maxHeartbeats 2000000
namespace K13
open PySem L2 Pi
open Lib hiding pd
section
variable {top : Nat → Stmt}
theorem wrd_rec {k : Nat} : (cfg (md top) k).wrd "_law_word" (some ⟨"BadRecipe", []⟩) = some (.str "recipe") := by rw [wrd_at]; rfl
theorem bent_at : tbl (md top).tb "_law_bent" = some i__law_bent := by rfl
def PB (top : Nat → Stmt) (ms : List (List D)) (L : Nat) (r : Rc) : Prop := ∀ d m sto, shp r d = true → sd d = true → Hk ms m sto → m + 2 * (L + 1) < 2 ^ 90 → ∃ x sto', (cfg (md top) (L + 3)).fns "_law_bent" [.ref ms.length, d] sto = some (.ok (.val x), sto') ∧ Lib.pd x = true ∧ Hk ms (m + 2 * (L + 1)) sto'
def nones : List D := [.tup [], .int 0, .bl false, .tup [.non], .tup [.tup [.int 1, .int 1], .tup []], .tup [.int 1, .int 1], .str "None", .lst []]
theorem nones_ok : ∀ x ∈ nones, Lib.pd x = true := fun x hx => pds_mem (by decide +kernel) hx
/-- the ways in which a paper is bent -/
def b1 (fl : D) (ds : List D) : List D := [.tup [fl], .tup [fl, .tup ds, .non], .lst [fl, .tup ds], .tup [fl, .lst ds], .tup [fl, .tup (cut ds (some 1) none)], .tup ds, fl]
def b2 (fl : D) (n d : Int) (ds : List D) : List D := [.tup [fl, .tup (ds ++ [.non])], .tup [.tup [.int (2 * n), .int (2 * d)], .tup ds], .tup [.non, .tup ds]]
def b3 (n : Int) (ds : List D) : List D := [.tup [.int n, .tup ds]]
def b4 (fl : D) (n d : Int) (ds : List D) : List D := [.tup [.tup [.int n, .int (0 - d)], .tup ds], .tup [.lst [.int n, .int d], .tup ds], .tup [.tup [.bl true, .int 1], .tup ds], .non, .tup [fl, .non]]
def b5 (fl : D) (ds : List D) (at_ : Int) (x : D) : List D := (List.replicate 12 [D.tup [fl, .tup ((cut ds none (some at_) ++ [x]) ++ cut ds (some (at_ + 1)) none)]]).flatten
theorem pdI {i : Int} (h : i.natAbs ≤ 10000) : Lib.pd (.int i) = true := pd_small (by omega) (by omega)
theorem pds1 {a : D} (h : Lib.pd a = true) : Lib.pds [a] = true := by show (Lib.pd a && true) = true; rw [h]; rfl
theorem pds2 {a b : D} (h : Lib.pd a = true) (h2 : Lib.pd b = true) : Lib.pds [a, b] = true := by show (Lib.pd a && (Lib.pd b && true)) = true; rw [h, h2]; rfl
theorem pds3 {a b c : D} (h : Lib.pd a = true) (h2 : Lib.pd b = true) (h3 : Lib.pd c = true) : Lib.pds [a, b, c] = true := by show (Lib.pd a && (Lib.pd b && (Lib.pd c && true))) = true; rw [h, h2, h3]; rfl
theorem bents_ok {fl : D} {ds : List D} {n d at_ : Int} {x : D} (hf : Lib.pd fl = true) (hd : Lib.pds ds = true) (hn : n.natAbs ≤ 1000) (hd2 : d.natAbs ≤ 1000) (hx : Lib.pd x = true) : ∀ y ∈ b1 fl ds ++ b2 fl n d ds ++ b3 n ds ++ b4 fl n d ds ++ b5 fl ds at_ x, Lib.pd y = true := by
  have ht : Lib.pd (.tup ds) = true := hd
  have hl : Lib.pd (.lst ds) = true := hd
  have c := fun lo hi => pds_cut (lo := lo) (hi := hi) hd
  have h1 := pdI (i := n) (by omega)
  have h2 := pdI (i := d) (by omega)
  intro y hy
  simp only [List.mem_append] at hy
  rcases hy with (((hy | hy) | hy) | hy) | hy
  · simp only [b1, List.mem_cons, List.not_mem_nil, or_false] at hy
    rcases hy with rfl | rfl | rfl | rfl | rfl | rfl | rfl
    · exact pds1 hf
    · exact pds3 hf ht rfl
    · exact pds2 hf ht
    · exact pds2 hf hl
    · exact pds2 hf (c _ _)
    · exact ht
    · exact hf
  · simp only [b2, List.mem_cons, List.not_mem_nil, or_false] at hy
    rcases hy with rfl | rfl | rfl
    · exact pds2 hf (pds_app hd rfl)
    · exact pds2 (pds2 (pdI (by omega)) (pdI (by omega))) ht
    · exact pds2 rfl ht
  · simp only [b3, List.mem_cons, List.not_mem_nil, or_false] at hy
    rw [hy]
    exact pds2 h1 ht
  · simp only [b4, List.mem_cons, List.not_mem_nil, or_false] at hy
    rcases hy with rfl | rfl | rfl | rfl | rfl
    · exact pds2 (pds2 h1 (pdI (by omega))) ht
    · exact pds2 (pds2 h1 h2) ht
    · exact pds2 (pds2 rfl (pdI (by omega))) ht
    · rfl
    · exact pds2 hf rfl
  · obtain ⟨l, hl, hy⟩ := List.mem_flatten.mp hy
    obtain ⟨_, rfl⟩ := List.mem_replicate.mp hl
    rw [List.mem_singleton] at hy
    rw [hy]
    exact pds2 hf (pds_app (pds_app (c _ _) (pds1 hx)) (c _ _))
theorem add_lst {xs ys : List D} (h : xs.length + ys.length ≤ 1000) : addOp (.lst xs) (.lst ys) = some (.new (xs ++ ys)) := if_pos (Nat.le_trans h (by decide))
theorem add_tup {xs ys : List D} (h : xs.length + ys.length ≤ 1000) : addOp (.tup xs) (.tup ys) = some (.val (.tup (xs ++ ys))) := if_pos (Nat.le_trans h (by decide))
theorem mul12 (d : D) : mulOp (.lst [d]) (.int 12) = some (.new (List.replicate 12 [d]).flatten) := by
  show gd (-(2 ^ 63) ≤ (12 : Int) ∧ (12 : Int) < 2 ^ 63 ∧ [d].length * (12 : Int).toNat ≤ szL) _ = _
  exact if_pos ⟨by decide, by decide, by show 12 ≤ szL; decide⟩
theorem cut_len {α : Type} {xs : List α} {lo hi : Option Int} : (cut xs lo hi).length ≤ xs.length := by
  unfold cut
  rw [List.length_take, List.length_drop]
  omega
theorem sp_bent {ms : List (List D)} : ∀ (n : Nat) (r : Rc), r.dep ≤ n → r.ok → ∀ L, r.dep ≤ L → PB top ms L r := by
  refine rc_ind (P := fun L r => PB top ms L r) ?_ ?_
  · intro L b h0 h7 d m sto hs hsd hk hm
    have hd : d = .non := by
      have hs : isNon d = true := hs
      cases d <;> first | rfl | cases hs
    subst hd
    obtain ⟨x, sto', e, hx, hk'⟩ := c_any (M := md top) (k := L) (i := 0) (env := [.val (.ref ms.length), .val .non, .no, .no, .no, .no]) (xs := nones) rfl (ev_lst (ds := nones) (el_cons (ev_tup el_nil (by simp)) (el_cons ev_cI (el_cons ev_cB (el_cons (ev_tup (el_one ev_cN) (by simp)) (el_cons (ev_tup (el_two (ev_tup (el_two ev_cI ev_cI) (by simp)) (ev_tup el_nil (by simp))) (by simp)) (el_cons (ev_tup (el_two ev_cI ev_cI) (by simp)) (el_cons ev_cS (el_cons (ev_lst el_nil (by simp)) el_nil)))))))) (by decide)) rfl hk (by omega) (by decide) (by decide)
    exact ⟨x, sto', fn_ret (k := L + 2) (env1 := [.val (.ref ms.length), .val .non, .no, .no, .no, .no]) bent_at rfl (ex_ret ((ex_iteT (ev_isN (v := .val .non) (ev_loc rfl))).trans (ex_ret (ex_rete e rfl)))), nones_ok x hx, hk'.le (by omega)⟩
  · intro L r hok h1 h2 len ev d m sto hs hsd hk hm
    obtain ⟨q, ds, rfl, hds⟩ := shp_of h2 hs
    have dl := shps_len r ds hds
    rw [shps_zip r ds h1 dl] at hds
    have hsd2 : (sd (fr q) && (sds ds && true)) = true := hsd
    rw [Bool.and_true, Bool.and_eq_true] at hsd2
    have hq : ((decide (q.num.natAbs ≤ 1000)) && (decide ((q.den : Int).natAbs ≤ 1000) && true)) = true := hsd2.1
    rw [Bool.and_true, Bool.and_eq_true, decide_eq_true_eq, decide_eq_true_eq] at hq
    have pl : 1 ≤ ds.length ∧ ds.length ≤ 8 := by
      rw [dl, parts_len]
      refine ⟨?_, len⟩
      cases r with
      | cons => rw [ps_cons, List.length_cons]; omega
      | _ => exact h2.elim
    have pf : Lib.pd (fr q) = true := sd_pd _ hsd2.1
    have pds := sds_pds _ hsd2.2
    obtain ⟨n, en⟩ : ∃ n, n = q.num := ⟨_, rfl⟩
    obtain ⟨dd, ed⟩ : ∃ dd, dd = (q.den : Int) := ⟨_, rfl⟩
    have ef : fr q = .tup [.int n, .int dd] := by rw [en, ed]; rfl
    rw [← en, ← ed] at hq
    obtain ⟨fl, efl⟩ : ∃ fl, fl = fr q := ⟨_, rfl⟩
    rw [← efl] at ef pf ⊢
    have s1 := ex_if0 (C := cfg (md top) (L + 3)) (A := .seq (.ret (.call "_law_any" (.cons (.loc 0) (.cons (.lst (.cons (.tup .nil) (.cons (.cI 0) (.cons (.cB false) (.cons (.tup (.cons .cN .nil)) (.cons (.tup (.cons (.tup (.cons (.cI 1) (.cons (.cI 1) .nil))) (.cons (.tup .nil) .nil))) (.cons (.tup (.cons (.cI 1) (.cons (.cI 1) .nil))) (.cons (.cS "None") (.cons (.lst .nil) .nil))))))))) .nil)))) .skip) (ev_isN (s1 := ⟨[.val (.ref ms.length), .val (.tup [fl, .tup ds]), .no, .no, .no, .no], sto⟩) (v := .val (.tup [fl, .tup ds])) (ev_loc (i := 1) rfl))
    have s2 := ex_setT (C := cfg (md top) (L + 3)) (t := .cons (.nm 2) (.cons (.nm 3) .nil)) (s := ⟨[.val (.ref ms.length), .val (.tup [fl, .tup ds]), .no, .no, .no, .no], sto⟩) (v := .val (.tup [fl, .tup ds])) (env := [.val (.ref ms.length), .val (.tup [fl, .tup ds]), .val fl, .val (.tup ds), .no, .no]) (ev_loc (i := 1) rfl) (fun i z => by cases z) rfl
    obtain ⟨at_, sto1, d1, a0, a1, hk1⟩ := c_draw (M := md top) (k := L + 2) (i := 0) (a := .len (.loc 3)) (many := (ds.length : Nat)) (env := [.val (.ref ms.length), .val (.tup [fl, .tup ds]), .val fl, .val (.tup ds), .no, .no]) rfl (ev_len (d := .tup ds) (br_loc rfl) rfl rfl) hk (by omega) (by omega) (by omega)
    have s3 := ex_set (i := 4) d1 (by simp)
    -- the lists
    obtain ⟨F, eF⟩ : ∃ F : Sl → List (List D) → Pi.St, F = fun e5 sto => ⟨[.val (.ref ms.length), .val (.tup [fl, .tup ds]), .val fl, .val (.tup ds), .val (.int at_), e5], sto⟩ := ⟨_, rfl⟩
    have f : ∀ e5 sto, evE (cfg (md top) (L + 3)) (.loc 2) (F e5 sto) = okk (.val fl) (F e5 sto) := by rw [eF]; exact fun _ _ => rfl
    have g : ∀ e5 sto, evE (cfg (md top) (L + 3)) (.loc 3) (F e5 sto) = okk (.val (.tup ds)) (F e5 sto) := by rw [eF]; exact fun _ _ => rfl
    have gb : ∀ e5 sto, brw (.loc 3) (evE (cfg (md top) (L + 3)) (.loc 3) (F e5 sto)) (F e5 sto) = okk (.val (.tup ds)) (F e5 sto) := by rw [eF]; exact fun _ _ => rfl
    have j0 : ∀ e5 sto, evE (cfg (md top) (L + 3)) (.idx (.loc 2) (.cI 0)) (F e5 sto) = okk (.val (.int n)) (F e5 sto) := by rw [eF, ef]; exact fun _ _ => ev_idxl rfl rfl ix0
    have j1 : ∀ e5 sto, evE (cfg (md top) (L + 3)) (.idx (.loc 2) (.cI 1)) (F e5 sto) = okk (.val (.int dd)) (F e5 sto) := by rw [eF, ef]; exact fun _ _ => ev_idxl rfl rfl ix1
    have a4 : ∀ e5 sto, evE (cfg (md top) (L + 3)) (.loc 4) (F e5 sto) = okk (.val (.int at_)) (F e5 sto) := by rw [eF]; exact fun _ _ => rfl
    have own : ∀ xs sto, evE (cfg (md top) (L + 3)) (.loc 5) (F (.own xs) sto) = okk (.val (.lst xs)) (F (.val (.lst xs)) sto) := by rw [eF]; exact fun _ _ => ev_own rfl
    have set5 : ∀ {a : E} {xs s e5 sto}, evE (cfg (md top) (L + 3)) a s = okk (.new xs) (F e5 sto) → exS (cfg (md top) (L + 3)) (.set (.nm 5) a) s = okk .nx (F (.own xs) sto) := by
      intro a xs s e5 sto h
      have := ex_setN (i := 5) h (by rw [eF]; simp)
      rw [eF] at this ⊢
      exact this
    have l1 : evE (cfg (md top) (L + 3)) (.lst (.cons (.tup (.cons (.loc 2) .nil)) (.cons (.tup (.cons (.loc 2) (.cons (.loc 3) (.cons .cN .nil)))) (.cons (.lst (.cons (.loc 2) (.cons (.loc 3) .nil))) (.cons (.tup (.cons (.loc 2) (.cons (.blt .list (.cons (.loc 3) .nil)) .nil))) (.cons (.tup (.cons (.loc 2) (.cons (.slc (.loc 3) (.yes (.cI 1)) .no) .nil))) (.cons (.loc 3) (.cons (.loc 2) .nil)))))))) (F .no sto1) = okk (.new (b1 fl ds)) (F .no sto1) :=
      ev_lst (ds := b1 fl ds) (el_cons (ev_tup (el_one (f _ _)) (by simp)) (el_cons (ev_tup (el_three (f _ _) (g _ _) ev_cN) (by simp)) (el_cons (ev_lst (el_two (f _ _) (g _ _)) (by simp)) (el_cons (ev_tup (el_two (f _ _) (ev_blt (f := .list) (v := .new ds) (el_one (g _ _)) rfl)) (by simp)) (el_cons (ev_tup (el_two (f _ _) (ev_slc (d := .tup ds) (v := .val (.tup (cut ds (some 1) none))) (s4 := ⟨[], []⟩) (gb _ _) (eo_yes ev_cI) eo_no rfl rfl)) (by simp)) (el_cons (g _ _) (el_cons (f _ _) el_nil))))))) (by simp [b1])
    have n2 : mulOp (.int 2) (.int n) = some (.val (.int (2 * n))) := mul_sm (sm_small (by omega) (by omega)) (sm_small (by omega) (by omega))
    have dd2 : mulOp (.int 2) (.int dd) = some (.val (.int (2 * dd))) := mul_sm (sm_small (by omega) (by omega)) (sm_small (by omega) (by omega))
    have l2 : ∀ e5, evE (cfg (md top) (L + 3)) (.lst (.cons (.tup (.cons (.loc 2) (.cons (.bin .Add (.loc 3) (.tup (.cons .cN .nil))) .nil))) (.cons (.tup (.cons (.tup (.cons (.bin .Mult (.cI 2) (.idx (.loc 2) (.cI 0))) (.cons (.bin .Mult (.cI 2) (.idx (.loc 2) (.cI 1))) .nil))) (.cons (.loc 3) .nil))) (.cons (.tup (.cons .cN (.cons (.loc 3) .nil))) .nil)))) (F e5 sto1) = okk (.new (b2 fl n dd ds)) (F e5 sto1) := fun e5 =>
      ev_lst (ds := b2 fl n dd ds) (el_three (ev_tup (el_two (f _ _) (ev_bin (o := .Add) (g _ _) (ev_tup (el_one ev_cN) (by simp)) (add_tup (by simp; omega)))) (by simp)) (ev_tup (el_two (ev_tup (el_two (ev_bin (o := .Mult) (v := .val (.int 2)) ev_cI (j0 _ _) n2) (ev_bin (o := .Mult) (v := .val (.int 2)) ev_cI (j1 _ _) dd2)) (by simp)) (g _ _)) (by simp)) (ev_tup (el_two ev_cN (g _ _)) (by simp))) (by simp [b2])
    have l4 : ∀ e5, evE (cfg (md top) (L + 3)) (.lst (.cons (.tup (.cons (.tup (.cons (.idx (.loc 2) (.cI 0)) (.cons (.bin .Sub (.cI 0) (.idx (.loc 2) (.cI 1))) .nil))) (.cons (.loc 3) .nil))) (.cons (.tup (.cons (.blt .list (.cons (.loc 2) .nil)) (.cons (.loc 3) .nil))) (.cons (.tup (.cons (.tup (.cons (.cB true) (.cons (.cI 1) .nil))) (.cons (.loc 3) .nil))) (.cons .cN (.cons (.tup (.cons (.loc 2) (.cons .cN .nil))) .nil)))))) (F e5 sto1) = okk (.new (b4 fl n dd ds)) (F e5 sto1) := fun e5 =>
      ev_lst (ds := b4 fl n dd ds) (el_cons (ev_tup (el_two (ev_tup (el_two (j0 _ _) (ev_bin (o := .Sub) (v := .val (.int 0)) ev_cI (j1 _ _) rfl)) (by simp)) (g _ _)) (by simp)) (el_cons (ev_tup (el_two (ev_blt (f := .list) (v := .new [.int n, .int dd]) (el_one (f _ _)) (by rw [ef]; rfl)) (g _ _)) (by simp)) (el_cons (ev_tup (el_two (ev_tup (el_two ev_cB ev_cI) (by simp)) (g _ _)) (by simp)) (el_cons ev_cN (el_cons (ev_tup (el_two (f _ _) ev_cN) (by simp)) el_nil))))) (by simp [b4])
    -- the part that is bent within
    obtain ⟨p, hp, ap⟩ : ∃ p, p ∈ r.parts.zip ds ∧ atD ds at_ = some p.2 := by
      have hl : at_.toNat < ds.length := by omega
      have hz : at_.toNat < (r.parts.zip ds).length := by rw [List.length_zip]; omega
      refine ⟨(r.parts.zip ds)[at_.toNat], List.getElem_mem hz, ?_⟩
      unfold atD ixOf
      rw [if_pos a0, if_pos a1]
      show ds[at_.toNat]? = _
      rw [List.getElem?_eq_getElem hl, List.getElem_zip]
    have hp1 := List.of_mem_zip hp
    obtain ⟨x, sto2, e5, px, hk2⟩ := ev p.1 hp1.1 p.2 (m + 1) sto1 (List.all_eq_true.mp hds p hp) (sds_mem hsd2.2 hp1.2) hk1 (by omega)
    have i4 : ∀ e5 sto, evE (cfg (md top) (L + 3)) (.idx (.loc 3) (.loc 4)) (F e5 sto) = okk (.val p.2) (F e5 sto) := fun e5 sto => ev_idx (k := .non) (gb _ _) (a4 _ _) rfl ap
    have cb : ∀ e5, evE (cfg (md top) (L + 3)) (.call "_law_bent" (.cons (.loc 0) (.cons (.idx (.loc 3) (.loc 4)) .nil))) (F e5 sto1) = okk (.val x) (F e5 sto2) := by
      intro e5'
      have l := el_two (C := cfg (md top) (L + 3)) (a := .loc 0) (v := .val (.ref ms.length)) (s := F e5' sto1) (by rw [eF]; rfl) (i4 e5' sto1)
      have := ev_call (f := "_law_bent") (sto := sto2) (v := .val x) l (by rw [eF]; exact e5)
      rw [eF] at this ⊢
      exact this
    have cl1 : (cut ds none (some at_)).length ≤ 8 := Nat.le_trans cut_len pl.2
    have cl2 : (cut ds (some (at_ + 1)) none).length ≤ 8 := Nat.le_trans cut_len pl.2
    have l5 : ∀ e5, evE (cfg (md top) (L + 3)) (.bin .Mult (.lst (.cons (.tup (.cons (.loc 2) (.cons (.bin .Add (.bin .Add (.slc (.loc 3) .no (.yes (.loc 4))) (.tup (.cons (.call "_law_bent" (.cons (.loc 0) (.cons (.idx (.loc 3) (.loc 4)) .nil))) .nil))) (.slc (.loc 3) (.yes (.bin .Add (.loc 4) (.cI 1))) .no)) .nil))) .nil)) (.cI 12)) (F e5 sto1) = okk (.new (b5 fl ds at_ x)) (F e5 sto2) := by
      intro e5'
      have c1 := ev_slc (d := .tup ds) (v := .val (.tup (cut ds none (some at_)))) (s4 := ⟨[], []⟩) (gb e5' sto1) eo_no (eo_yes (a4 e5' sto1)) rfl rfl
      have c2 := ev_bin (o := .Add) c1 (ev_tup (el_one (cb e5')) (by simp)) (add_tup (by simp; omega))
      have c3 := ev_slc (d := .tup ds) (v := .val (.tup (cut ds (some (at_ + 1)) none))) (s4 := ⟨[], []⟩) (gb e5' sto2) (eo_yes (ev_bin (o := .Add) (a4 e5' sto2) (ev_cI (j := 1)) rfl)) eo_no rfl rfl
      have c4 := ev_bin (o := .Add) c2 c3 (add_tup (by rw [List.length_append]; simp; omega))
      exact ev_bin (o := .Mult) (u := .val (.int 12)) (ev_lst (el_one (ev_tup (el_two (f e5' sto1) c4) (by simp))) (by simp)) ev_cI (mul12 _)
    have app5 : ∀ {a : E} {xs : List D} {v : Rv} {sto}, evE (cfg (md top) (L + 3)) a (F (.own xs) sto) = okk v (F (.own xs) sto) → xs.length ≤ 1000000 → exS (cfg (md top) (L + 3)) (.exp (.mth .append (.loc 5) (.cons a .nil))) (F (.own xs) sto) = okk .nx (F (.own (xs ++ [v.d])) sto) := by
      intro a xs v sto h hl
      rw [eF] at h ⊢
      exact ex_app (i := 5) rfl h rfl hl
    have b1l : (b1 fl ds).length = 7 := rfl
    have t1 := set5 l1
    have t2 := set5 (ev_bin (o := .Add) (own (b1 fl ds) sto1) (l2 _) (add_lst (by show 7 + 3 ≤ 1000; omega)))
    have t3 := app5 (a := .tup (.cons (.idx (.loc 2) (.cI 0)) (.cons (.loc 3) .nil))) (xs := b1 fl ds ++ b2 fl n dd ds) (ev_tup (el_two (j0 _ sto1) (g _ _)) (by simp)) (by show 10 ≤ 1000000; omega)
    have t4 := set5 (ev_bin (o := .Add) (own (b1 fl ds ++ b2 fl n dd ds ++ b3 n ds) sto1) (l4 _) (add_lst (by show 11 + 5 ≤ 1000; omega)))
    have t5 := set5 (ev_bin (o := .Add) (own (b1 fl ds ++ b2 fl n dd ds ++ b3 n ds ++ b4 fl n dd ds) sto1) (l5 _) (add_lst (by show 16 + 12 ≤ 1000; omega)))
    have al : (b1 fl ds ++ b2 fl n dd ds ++ b3 n ds ++ b4 fl n dd ds ++ b5 fl ds at_ x).length = 28 := rfl
    obtain ⟨y, sto3, e6, hy, hk3⟩ := c_any (M := md top) (k := L + 1) (i := 0) (a := .loc 5) (env := [.val (.ref ms.length), .val (.tup [fl, .tup ds]), .val fl, .val (.tup ds), .val (.int at_), .own (b1 fl ds ++ b2 fl n dd ds ++ b3 n ds ++ b4 fl n dd ds ++ b5 fl ds at_ x)]) rfl (ev_own (i := 5) rfl) rfl hk2 (by omega) (fun z => by rw [z] at al; cases al) (by rw [al]; decide)
    have t6 : exS (cfg (md top) (L + 3)) (.seq (.ret (.call "_law_any" (.cons (.loc 0) (.cons (.loc 5) .nil)))) .skip) (F (.own (b1 fl ds ++ b2 fl n dd ds ++ b3 n ds ++ b4 fl n dd ds ++ b5 fl ds at_ x)) sto2) = okk (.ret (.val y)) ⟨[.val (.ref ms.length), .val (.tup [fl, .tup ds]), .val fl, .val (.tup ds), .val (.int at_), .val (.lst (b1 fl ds ++ b2 fl n dd ds ++ b3 n ds ++ b4 fl n dd ds ++ b5 fl ds at_ x))], sto3⟩ := by
      rw [eF]
      exact ex_ret (ex_rete e6 rfl)
    have all := (seq_nx t1).trans ((seq_nx t2).trans ((seq_nx t3).trans ((seq_nx t4).trans ((seq_nx t5).trans t6))))
    have s3' : exS (cfg (md top) (L + 3)) (.set (.nm 4) (.call "_law_draw" (.cons (.loc 0) (.cons (.len (.loc 3)) .nil)))) ⟨[.val (.ref ms.length), .val (.tup [fl, .tup ds]), .val fl, .val (.tup ds), .no, .no], sto⟩ = okk .nx (F .no sto1) := by
      rw [eF]; exact s3
    refine ⟨y, sto3, fn_ret (k := L + 3) bent_at rfl ((seq_nx s1).trans ((seq_nx s2).trans ((seq_nx s3').trans all))), ?_, hk3.le (by omega)⟩
    exact bents_ok pf pds hq.1 hq.2 px y hy
theorem eqb (b : Bool) : cmpOp .IsNot (.bl b) (.bl b) = some false := by cases b <;> rfl
/-- a lap: bent, judged -/
theorem lap {k m : Nat} {r : Rc} {pp : D} {n : Nat} {e0 e2 e6 e7 e8 e9 : Sl} {sto : List (List D)} (hr : r.good) (hn : n ≤ 7) (hmx : maxOp [.lst (r.bins.map .int)] = some (.val (.int n))) (hs : shp r pp = true) (hsd : sd pp = true) (hk : Hk [mk "law"] m sto) (kk : k ≤ 1000) (hm : m + 10000 < 2 ^ 90) :
    ∃ e8' e9' sto', exS (cfg (md top) (k + 20)) b_law_1 ⟨[e0, .val (.ref 1), e2, .val r.d, .val pp, .val (prc (n + 1)), e6, e7, e8, e9], sto⟩ = okk .nx ⟨[e0, .val (.ref 1), e2, .val r.d, .val pp, .val (prc (n + 1)), e6, e7, e8', e9'], sto'⟩ ∧ Hk [mk "law"] (m + 10000) sto' := by
  obtain ⟨x, sto1, eb, px, hk1⟩ := sp_bent (top := top) (ms := [mk "law"]) 6 r hr.2.2.2 hr.1 (k + 17) (by have := hr.2.2.2; omega) pp m sto hs hsd hk (by omega)
  have ls := ls_all (M := md top) 6 r hr.2.2.2 hr.1 (k + 18) (by have := hr.2.2.2; omega) x sto1 px
  have ip := sp_ispaper (M := md top) hr px (k + 5) sto1
  have st1 := ex_set (C := cfg (md top) (k + 20)) (i := 8) (s := ⟨[e0, .val (.ref 1), e2, .val r.d, .val pp, .val (prc (n + 1)), e6, e7, e8, e9], sto⟩) (ev_call (f := "_law_bent") (el_two (v := .val (.ref 1)) (u := .val pp) (ev_loc (i := 1) rfl) (ev_loc (i := 4) rfl)) eb) (by simp)
  have st2 := ex_set (C := cfg (md top) (k + 20)) (i := 9) (s := ⟨[e0, .val (.ref 1), e2, .val r.d, .val pp, .val (prc (n + 1)), e6, e7, .val x, e9], sto1⟩) (ev_callp (f := "_law_is_shape") (el_two (v := .val r.d) (u := .val x) (ev_loc (i := 3) rfl) (ev_loc (i := 8) rfl)) ls) (by simp)
  have is := sp_is (M := md top) (k := k + 19) (sto := sto1) (rp_bl (shp r x)) (by decide) (by decide)
  have st3 := ex_if0 (C := cfg (md top) (k + 20)) (A := .seq (.ret (.cB false)) .skip) (s := ⟨[e0, .val (.ref 1), e2, .val r.d, .val pp, .val (prc (n + 1)), e6, e7, .val x, .val (.bl (shp r x))], sto1⟩) (ev_tnot (p := true) (ev_trub (ev_callp (f := "_law_is") (el_two (v := .val (.bl (shp r x))) (u := .val (.bl (shp r x))) (ev_callp (f := "is_paper") (el_two (v := .val r.d) (u := .val x) (ev_loc (i := 3) rfl) (ev_loc (i := 8) rfl)) ip) (ev_loc (i := 9) rfl)) is)))
  have t4 := ev_tnot (ev_trub (ev_loc (C := cfg (md top) (k + 20)) (i := 9) (s := ⟨[e0, .val (.ref 1), e2, .val r.d, .val pp, .val (prc (n + 1)), e6, e7, .val x, .val (.bl (shp r x))], sto1⟩) (d := .bl (shp r x)) rfl))
  have st4 : exS (cfg (md top) (k + 20)) (.ite (.tand (.tnot (.tru (.loc 9))) (.cmp .IsNot (.call "is_floor" (.cons (.loc 3) (.cons (.loc 5) (.cons (.loc 8) .nil)))) (.cB false))) (.seq (.ret (.cB false)) .skip) .skip) ⟨[e0, .val (.ref 1), e2, .val r.d, .val pp, .val (prc (n + 1)), e6, e7, .val x, .val (.bl (shp r x))], sto1⟩ = okk .nx ⟨[e0, .val (.ref 1), e2, .val r.d, .val pp, .val (prc (n + 1)), e6, e7, .val x, .val (.bl (shp r x))], sto1⟩ := by
    cases h : shp r x with
    | true =>
      rw [h] at t4
      exact ex_if0 (ev_tandF t4)
    | false =>
      rw [h] at t4
      have fl := sp_isfloor0 (M := md top) hr hn hmx px h (k + 4) sto1
      exact ex_if0 (ev_tandT t4 (ev_cmpc (o := .IsNot) (v := .val (.bl false)) (ev_callp (f := "is_floor") (el_three (v := .val r.d) (u := .val (prc (n + 1))) (t := .val x) (ev_loc (i := 3) rfl) (ev_loc (i := 5) rfl) (ev_loc (i := 8) rfl)) fl) ev_cB rfl rfl rfl))
  exact ⟨_, _, sto1, (seq_nx st1).trans ((seq_nx st2).trans ((seq_nx st3).trans ((seq_nx st4).trans rfl))), hk1.le (by omega)⟩
def Fr (env : List Sl) : Prop := ∃ e0 e2 e3 e4 e5 e6 e7 e8 e9, env = [e0, .val (.ref 1), e2, e3, e4, e5, e6, e7, e8, e9]
theorem costP6 : costP 6 ≤ 10000000 := by decide
theorem turn {k m : Nat} {x : D} {env : List Sl} {sto : List (List D)} (hf : Fr env) (hk : Hk [mk "law"] m sto) (kk : k ≤ 1000) (hm : m + 20000000 < 2 ^ 90) : ∃ env0 env' sto', bindT (.nm 2) x env = some env0 ∧ exS (cfg (md top) (k + 20)) b_law_2 ⟨env0, sto⟩ = okk .nx ⟨env', sto'⟩ ∧ Fr env' ∧ Hk [mk "law"] (m + 20000000) sto' := by
  obtain ⟨e0, e2, e3, e4, e5, e6, e7, e8, e9, rfl⟩ := hf
  have c5 := costR5
  -- the recipe
  obtain ⟨d, sto1, a1, d1, hk1⟩ := c_any (M := md top) (k := k + 18) (i := 1) (a := .lst (.cons (.cI 1) (.cons (.cI 3) (.cons (.cI 5) .nil)))) (env := [e0, .val (.ref 1), .val x, e3, e4, e5, e6, e7, e8, e9]) (xs := [1, 3, 5].map D.int) rfl (ev_lst (el_three ev_cI ev_cI ev_cI) (by simp)) rfl hk (by omega) (by simp) (by simp)
  obtain ⟨dn, rfl, dn1, dn5⟩ : ∃ dn : Nat, d = .int dn ∧ 1 ≤ dn ∧ dn ≤ 5 := by
    simp only [List.map_cons, List.map_nil, List.mem_cons, List.not_mem_nil, or_false] at d1
    rcases d1 with rfl | rfl | rfl
    · exact ⟨1, rfl, by omega, by omega⟩
    · exact ⟨3, rfl, by omega, by omega⟩
    · exact ⟨5, rfl, by omega, by omega⟩
  obtain ⟨v2, sto2, d2, v20, v21, hk2⟩ := c_draw (M := md top) (k := k + 19) (i := 1) (a := .cI 8) (env := [e0, .val (.ref 1), .val x, e3, e4, e5, e6, e7, e8, e9]) rfl ev_cI hk1 (by omega) (by omega) (by omega)
  obtain ⟨mn, emn⟩ : ∃ mn : Nat, (mn : Int) = 1 + v2 := ⟨(1 + v2).toNat, by omega⟩
  obtain ⟨r, sto3, ed, rok, rnd, rl, rdep, hk3⟩ := sp_drawn (M := md top) (k := k + 10) (d := dn) (many := mn) hk2 (by omega) (by omega) (by omega) (by omega) (by omega)
  have a2 : evE (cfg (md top) (k + 20)) (.bin .Add (.cI 1) (.call "_law_draw" (.cons (.loc 1) (.cons (.cI 8) .nil)))) ⟨[e0, .val (.ref 1), .val x, e3, e4, e5, e6, e7, e8, e9], sto1⟩ = okk (.val (.int mn)) ⟨[e0, .val (.ref 1), .val x, e3, e4, e5, e6, e7, e8, e9], sto2⟩ := by
    rw [emn]
    exact ev_bin (o := .Add) ev_cI d2 rfl
  have st1 := ex_set (i := 3) (ev_call (C := cfg (md top) (k + 20)) (f := "_law_drawn") (el_three (v := .val (.ref 1)) (u := .val (.int dn)) (t := .val (.int mn)) (ev_loc (i := 1) rfl) a1 a2) ed) (by simp)
  have hr : r.good := ⟨rok, rnd, by omega, by omega⟩
  -- its paper
  have cp := costP_le (show r.dep ≤ 6 by omega)
  have c6 := costP6
  obtain ⟨pp, sto4, ep, hs, hsd, hk4⟩ := lp_paper (M := md top) (ms := [mk "law"]) 6 r hr.2.2.2 hr.1 (k + 18) (by omega) _ sto3 hk3 (by omega)
  have st2 := ex_set (i := 4) (ev_call (C := cfg (md top) (k + 20)) (f := "_law_paper") (s1 := ⟨[e0, .val (.ref 1), .val x, .val r.d, e4, e5, e6, e7, e8, e9], sto3⟩) (el_two (v := .val (.ref 1)) (u := .val r.d) (ev_loc (i := 1) rfl) (ev_loc (i := 3) rfl)) ep) (by simp)
  -- prices
  obtain ⟨n, hn, hmx⟩ := max_bins (bins7 hr.1) (bins_pos r hr.1)
  obtain ⟨rv, lb1, lb2⟩ := (lb_both (M := md top) r).1 (k + 20) hr.1 hr.2.2.1 (by omega) sto4
  have st3 : exS (cfg (md top) (k + 20)) (.set (.nm 5) (.bin .Mult (.tup (.cons (.tup (.cons (.cI 1) (.cons (.cI 2) .nil))) .nil)) (.bin .Add (.blt .max (.cons (.call "_law_bins" (.cons (.loc 3) .nil)) .nil)) (.cI 1)))) ⟨[e0, .val (.ref 1), .val x, .val r.d, .val pp, e5, e6, e7, e8, e9], sto4⟩ = okk .nx ⟨[e0, .val (.ref 1), .val x, .val r.d, .val pp, .val (prc (n + 1)), e6, e7, e8, e9], sto4⟩ := by
    have h1 := ev_blt (C := cfg (md top) (k + 20)) (f := .max) (s := ⟨[e0, .val (.ref 1), .val x, .val r.d, .val pp, e5, e6, e7, e8, e9], sto4⟩) (v := .val (.int n)) (el_one (ev_callp (f := "_law_bins") (el_one (v := .val r.d) (ev_loc (i := 3) rfl)) lb1)) (by rw [lb2]; exact hmx)
    exact ex_set (i := 5) (ev_bin (o := .Mult) (v := .val (.tup [dq 1 2])) (u := .val (.int ((n : Int) + 1))) (ev_tup (el_one (ev_tup (el_two ev_cI ev_cI) (by simp))) (by simp)) (ev_bin (o := .Add) h1 ev_cI rfl) (mul_prc hn)) (by simp)
  have ip := sp_ispaper (M := md top) hr (sd_pd _ hsd) (k + 5) sto4
  rw [hs] at ip
  have st4 := ex_if0 (C := cfg (md top) (k + 20)) (A := .seq (.ret (.cB false)) .skip) (s := ⟨[e0, .val (.ref 1), .val x, .val r.d, .val pp, .val (prc (n + 1)), e6, e7, e8, e9], sto4⟩) (ev_cmpc (o := .IsNot) (v := .val (.bl true)) (u := .val (.bl true)) (ev_callp (f := "is_paper") (el_two (v := .val r.d) (u := .val pp) (ev_loc (i := 3) rfl) (ev_loc (i := 4) rfl)) ip) ev_cB rfl rfl rfl)
  -- the laps
  obtain ⟨m4, em4⟩ : ∃ m4, m4 = m + 1 + 1 + 100 + costR 5 + costP r.dep := ⟨_, rfl⟩
  rw [← em4] at hk4
  obtain ⟨⟨env5, sto5⟩, l5, ⟨⟨e6', e8', e9', rfl⟩, hk5⟩⟩ := for_inv (t := .nm 6) (C := cfg (md top) (k + 20)) (A := b_law_1) (fun i s => (∃ e6 e8 e9, s.env = [e0, .val (.ref 1), .val x, .val r.d, .val pp, .val (prc (n + 1)), e6, e7, e8, e9]) ∧ Hk [mk "law"] (m4 + i * 10000) s.sto) ((List.range 8).map fun (i : Nat) => D.int i) 0 ⟨[e0, .val (.ref 1), .val x, .val r.d, .val pp, .val (prc (n + 1)), e6, e7, e8, e9], sto4⟩ (by
    rintro i y ⟨env, sto⟩ _ hi ⟨⟨e6, e8, e9, rfl⟩, hk⟩
    rw [List.length_map, List.length_range] at hi
    obtain ⟨e8', e9', sto', q1, q2⟩ := lap (top := top) (k := k) (e0 := e0) (e2 := .val x) (e6 := .val y) (e7 := e7) (e8 := e8) (e9 := e9) hr hn hmx hs hsd hk kk (by omega)
    exact ⟨_, ⟨_, sto'⟩, rfl, q1, ⟨_, _, _, rfl⟩, by rw [Nat.succ_mul, ← Nat.add_assoc]; exact q2⟩) ⟨⟨_, _, _, rfl⟩, by rw [Nat.zero_mul]; exact hk4⟩
  rw [List.length_map, List.length_range] at hk5
  have st5 := (ex_for (C := cfg (md top) (k + 20)) (t := .nm 6) (A := b_law_1) (evI_rng1 (a := .cI 8) (s := ⟨[e0, .val (.ref 1), .val x, .val r.d, .val pp, .val (prc (n + 1)), e6, e7, e8, e9], sto4⟩) (x := .int ((8 : Nat) : Int)) rfl (rng1_nat ⟨by omega, by omega⟩))).trans l5
  -- another recipe
  obtain ⟨v6, sto6, d6, v60, v61, hk6⟩ := c_draw (M := md top) (k := k + 19) (i := 1) (a := .cI 8) (env := [e0, .val (.ref 1), .val x, .val r.d, .val pp, .val (prc (n + 1)), e6', e7, e8', e9']) rfl ev_cI hk5 (by omega) (by omega) (by omega)
  obtain ⟨mn6, emn6⟩ : ∃ mn : Nat, (mn : Int) = 1 + v6 := ⟨(1 + v6).toNat, by omega⟩
  obtain ⟨o, sto7, d7, ook, ond, ol, odep, hk7⟩ := c_drawn (M := md top) (k := k + 10) (i := 1) (d := 3) (many := mn6) (b := .cI 3) (a := .bin .Add (.cI 1) (.call "_law_draw" (.cons (.loc 1) (.cons (.cI 8) .nil)))) (env := [e0, .val (.ref 1), .val x, .val r.d, .val pp, .val (prc (n + 1)), e6', e7, e8', e9']) rfl ev_cI (by rw [emn6]; exact ev_bin (o := .Add) ev_cI d6 rfl) hk6 (by omega) (by omega) (by omega) (by omega) (by omega)
  have st6 := ex_set (i := 7) d7 (by simp)
  have ho : o.good := ⟨ook, ond, by omega, by omega⟩
  have ip7 := sp_ispaper (M := md top) ho (sd_pd _ hsd) (k + 5) sto7
  have ls7 := ls_all (M := md top) 6 o ho.2.2.2 ho.1 (k + 18) (by omega) pp sto7 (sd_pd _ hsd)
  have is7 := sp_is (M := md top) (k := k + 19) (sto := sto7) (rp_bl (shp o pp)) (by decide) (by decide)
  have st7 := ex_if0 (C := cfg (md top) (k + 20)) (A := .seq (.ret (.cB false)) .skip) (s := ⟨[e0, .val (.ref 1), .val x, .val r.d, .val pp, .val (prc (n + 1)), e6', .val o.d, e8', e9'], sto7⟩) (ev_tnot (p := true) (ev_trub (ev_callp (f := "_law_is") (el_two (v := .val (.bl (shp o pp))) (u := .val (.bl (shp o pp))) (ev_callp (f := "is_paper") (el_two (v := .val o.d) (u := .val pp) (ev_loc (i := 7) rfl) (ev_loc (i := 4) rfl)) ip7) (ev_callp (f := "_law_is_shape") (el_two (v := .val o.d) (u := .val pp) (ev_loc (i := 7) rfl) (ev_loc (i := 4) rfl)) ls7)) is7)))
  -- odd things
  obtain ⟨od, sto8, o1, o2, o3, hk8⟩ := sp_odd (M := md top) (k := k + 17) hk7 (by omega)
  have oi := odd_ispaper (M := md top) (d := pp) o2 o3 (k + 5) sto8
  have c8 := ev_call (C := cfg (md top) (k + 20)) (f := "_law_odd") (s1 := ⟨[e0, .val (.ref 1), .val x, .val r.d, .val pp, .val (prc (n + 1)), e6', .val o.d, e8', e9'], sto7⟩) (el_one (v := .val (.ref 1)) (ev_loc (i := 1) rfl)) o1
  have l8 : evE (cfg (md top) (k + 20)) (.lam "_law_word" "law" 0 l_law_1) ⟨[e0, .val (.ref 1), .val x, .val r.d, .val pp, .val (prc (n + 1)), e6', .val o.d, e8', e9'], sto7⟩ = okk (.val (.str "recipe")) ⟨[e0, .val (.ref 1), .val x, .val r.d, .val pp, .val (prc (n + 1)), e6', .val o.d, e8', e9'], sto8⟩ :=
    ev_lamx (hk_mk hk7) (ev_callx (el_two (v := .val od) (u := .val pp) c8 (ev_loc (i := 4) rfl)) oi) wrd_rec
  have st8 := ex_if0 (A := .seq (.ret (.cB false)) .skip) (ev_cmpc (o := .NotEq) (p := false) l8 (ev_cS (j := "recipe")) rfl rfl (by decide +kernel))
  have body : exS (cfg (md top) (k + 20)) b_law_2 ⟨[e0, .val (.ref 1), .val x, e3, e4, e5, e6, e7, e8, e9], sto⟩ = okk .nx ⟨[e0, .val (.ref 1), .val x, .val r.d, .val pp, .val (prc (n + 1)), e6', .val o.d, e8', e9'], sto8⟩ :=
    (seq_nx st1).trans ((seq_nx st2).trans ((seq_nx st3).trans ((seq_nx st4).trans ((seq_nx st5).trans ((seq_nx st6).trans ((seq_nx st7).trans ((seq_nx st8).trans rfl)))))))
  exact ⟨_, _, sto8, rfl, body, ⟨_, _, _, _, _, _, _, _, _, rfl⟩, hk8.le (by omega)⟩
theorem holds (ns : List Int) (hl : ns.length ≤ 63) : ∃ sto, (cfg (md top) 60).fns "law" [.scr (ns.map .int)] (ts.map mk) = some (.ok (.val (.bl true)), sto) := by
  obtain ⟨sto0, eh, hk0⟩ := sp_hand (M := md top) (a := 10303) (b := 59) rfl (by omega) (by omega) (by omega) (by omega) (ms := [mk "law"]) (k := 58) (ns := ns)
  have st1 := ex_set (C := cfg (md top) 59) (i := 1) (s := ⟨[.val (.scr (ns.map .int)), .no, .no, .no, .no, .no, .no, .no, .no, .no], [mk "law"]⟩) (ev_call (f := "_law_hand") (el_one (v := .val (.scr (ns.map .int))) (ev_loc (i := 0) rfl)) eh) (by simp)
  obtain ⟨s2, l2, ⟨f2, _⟩⟩ := for_inv (t := .nm 2) (C := cfg (md top) 59) (A := b_law_2) (fun n s => Fr s.env ∧ Hk [mk "law"] (n * 20000000) s.sto) ((List.range 4).map fun (i : Nat) => D.int i) 0 ⟨[.val (.scr (ns.map .int)), .val (.ref 1), .no, .no, .no, .no, .no, .no, .no, .no], sto0⟩ (by
    rintro m x ⟨env, sto⟩ _ hm ⟨hf, hk⟩
    rw [List.length_map, List.length_range] at hm
    obtain ⟨env0, env', sto', q1, q2, q3, q4⟩ := turn (top := top) (k := 39) (x := x) hf hk (by omega) (by omega)
    exact ⟨env0, ⟨env', sto'⟩, q1, q2, q3, by rw [Nat.succ_mul]; exact q4⟩) ⟨⟨_, _, _, _, _, _, _, _, _, rfl⟩, by rw [Nat.zero_mul]; exact hk0⟩
  refine ⟨s2.sto, fn_ret (k := 59) (f := i_law) (env1 := s2.env) rfl rfl ?_⟩
  refine (seq_nx st1).trans ?_
  refine (seq_nx ((ex_for (evI_rng1 (x := .int ((4 : Nat) : Int)) rfl (rng1_nat ⟨by omega, by omega⟩))).trans l2)).trans ?_
  exact ex_ret (ex_rete ev_cB rfl)
end
end K13

namespace K13
open PySem L2 Pi
def topP (i : Nat) : Stmt := PySem.Challenge.pw_seenbins_k13_whole_shapes_of_level_paper.main.body.getD i (.Pass ⟨0, 0, 0, 0⟩)
theorem b_is_int : BndE (n_is_int topP) := fun _ _ _ _ _ _ us hl => match us, hl with | [_], _ => rfl
theorem b_is_within : BndE (n_is_within topP) := fun _ _ _ _ _ _ us hl => match us, hl with | [_, _, _], _ => rfl
theorem b_divisor : BndE (n_divisor topP) := fun _ _ _ _ _ _ us hl => match us, hl with | [_, _], _ => rfl
theorem b_multiple : BndE (n_multiple topP) := fun _ _ _ _ _ _ us hl => match us, hl with | [_], _ => rfl
theorem b_fraction : BndE (n_fraction topP) := fun _ _ _ _ _ _ us hl => match us, hl with | [_, _], _ => rfl
theorem b_is_fraction : BndE (n_is_fraction topP) := fun _ _ _ _ _ _ us hl => match us, hl with | [_], _ => rfl
theorem b_add : BndE (n_add topP) := fun _ _ _ _ _ _ us hl => match us, hl with | [_, _], _ => rfl
theorem b_negative : BndE (n_negative topP) := fun _ _ _ _ _ _ us hl => match us, hl with | [_], _ => rfl
theorem b_less_by : BndE (n_less_by topP) := fun _ _ _ _ _ _ us hl => match us, hl with | [_, _], _ => rfl
theorem b_product : BndE (n_product topP) := fun _ _ _ _ _ _ us hl => match us, hl with | [_, _], _ => rfl
theorem b_is_less : BndE (n_is_less topP) := fun _ _ _ _ _ _ us hl => match us, hl with | [_, _], _ => rfl
theorem b_lesser : BndE (n_lesser topP) := fun _ _ _ _ _ _ us hl => match us, hl with | [_, _], _ => rfl
theorem b_total : BndE (n_total topP) := fun _ _ _ _ _ _ us hl => match us, hl with | [_], _ => rfl
theorem b_dot : BndE (n_dot topP) := fun _ _ _ _ _ _ us hl => match us, hl with | [_, _], _ => rfl
theorem b_is_share : BndE (n_is_share topP) := fun _ _ _ _ _ _ us hl => match us, hl with | [_], _ => rfl
theorem b_is_bound : BndE (n_is_bound topP) := fun _ _ _ _ _ _ us hl => match us, hl with | [_], _ => rfl
theorem b_is_part_alone : BndE (n_is_part_alone topP) := fun _ _ _ _ _ _ us hl => match us, hl with | [_], _ => rfl
theorem b_found_bins : BndE (n_found_bins topP) := fun _ _ _ _ _ _ us hl => match us, hl with | [_, _], _ => rfl
theorem b_is_recipe : BndE (n_is_recipe topP) := fun _ _ _ _ _ _ us hl => match us, hl with | [_], _ => rfl
theorem b_check_recipe : BndE (n_check_recipe topP) := fun _ _ _ _ _ _ us hl => match us, hl with | [_], _ => rfl
theorem b_recipe_bins : BndE (n_recipe_bins topP) := fun _ _ _ _ _ _ us hl => match us, hl with | [_], _ => rfl
theorem b_is_prices : BndE (n_is_prices topP) := fun _ _ _ _ _ _ us hl => match us, hl with | [_], _ => rfl
theorem b_check_prices : BndE (n_check_prices topP) := fun _ _ _ _ _ _ us hl => match us, hl with | [_, _], _ => rfl
theorem b_by_value : BndE (n_by_value topP) := fun _ _ _ _ _ _ us hl => match us, hl with | [_], _ => rfl
theorem b_filled : BndE (n_filled topP) := fun _ _ _ _ _ _ us hl => match us, hl with | [_, _], _ => rfl
theorem b_least_cost : BndE (n_least_cost topP) := fun _ _ _ _ _ _ us hl => match us, hl with | [_, _], _ => rfl
theorem b_is_paper_of : BndE (n_is_paper_of topP) := fun _ _ _ _ _ _ us hl => match us, hl with | [_, _], _ => rfl
theorem b_is_paper : BndE (n_is_paper topP) := fun _ _ _ _ _ _ us hl => match us, hl with | [_, _], _ => rfl
theorem b_worth_of : BndE (n_worth_of topP) := fun _ _ _ _ _ _ us hl => match us, hl with | [_, _, _], _ => rfl
theorem b_is_floor : BndE (n_is_floor topP) := fun _ _ _ _ _ _ us hl => match us, hl with | [_, _, _], _ => rfl
theorem b__law_hand : BndE (n__law_hand topP) := fun _ _ _ _ _ _ us hl => match us, hl with | [_], _ => rfl
theorem b__law_draw : BndE (n__law_draw topP) := fun _ _ _ _ _ _ us hl => match us, hl with | [_, _], _ => rfl
theorem b__law_any : BndE (n__law_any topP) := fun _ _ _ _ _ _ us hl => match us, hl with | [_, _], _ => rfl
theorem b__law_frac : BndE (n__law_frac topP) := fun _ _ _ _ _ _ us hl => match us, hl with | [_, _], _ => rfl
theorem b__law_recipe : BndE (n__law_recipe topP) := fun _ _ _ _ _ _ us hl => match us, hl with | [_, _, _, _], _ => rfl
theorem b__law_drawn : BndE (n__law_drawn topP) := fun _ _ _ _ _ _ us hl => match us, hl with | [_, _, _], _ => rfl
theorem b__law_bins : BndE (n__law_bins topP) := fun _ _ _ _ _ _ us hl => match us, hl with | [_], _ => rfl
theorem b__law_is : BndE (n__law_is topP) := fun _ _ _ _ _ _ us hl => match us, hl with | [_, _], _ => rfl
theorem b__law_odd : BndE (n__law_odd topP) := fun _ _ _ _ _ _ us hl => match us, hl with | [_], _ => rfl
theorem b__law_paper : BndE (n__law_paper topP) := fun _ _ _ _ _ _ us hl => match us, hl with | [_, _], _ => rfl
theorem b__law_bent : BndE (n__law_bent topP) := fun _ _ _ _ _ _ us hl => match us, hl with | [_, _], _ => rfl
theorem b__law_is_shape : BndE (n__law_is_shape topP) := fun _ _ _ _ _ _ us hl => match us, hl with | [_, _], _ => rfl
theorem b_law : BndE (n_law topP) := fun _ _ _ _ _ _ us hl => match us, hl with | [_], _ => rfl
theorem bw__law_word : BndW (w__law_word topP) := fun _ _ _ _ _ _ us hl => match us, hl with | [_], _ => rfl
theorem chk : Chk (md topP) (g topP) := ⟨by decide +kernel, List.all_eq_true.mp (show (md topP).tb.all (chkE (g topP)) = true by decide +kernel), fun n h => List.mem_map.mp (of_decide_eq_true (List.all_eq_true.mp (show ((g topP).fns.all fun n => decide (n ∈ (md topP).tb.map (·.name))) = true by decide +kernel) n h)), by decide +kernel, List.all_eq_true.mp (show (md topP).ws.all chkW = true by decide +kernel), rfl, rfl⟩
theorem inT : n_law topP ∈ (md topP).tb := by simp [md]
theorem inTs : ∀ e ∈ (md topP).tb, e.lam = true → e.name ∈ ts := fun e he hl => by
  have := List.all_eq_true.mp (show ((md topP).tb.all fun e => !e.lam || decide (e.name ∈ ts)) = true by decide +kernel) e he
  rw [hl] at this
  exact of_decide_eq_true this
theorem cs_all {K : PySem.W.Frag} {mg : Str → Option Value} (h : ∀ p ∈ (md topP).cs, CsOk K mg p.1 p.2) : ∀ x d, (md topP).cs.lookup x = some d → CsOk K mg x d := fun x d q => h (x, d) (PySem.mem_of_lookup q)
end K13
open PySem PySem.W PyProof.Rows
set_option maxHeartbeats 0 in
theorem PySem.Challenge.cw_seenbins_k13_whole_shapes_of_level_paper_holds : PySem.Challenge.rw_seenbins_k13_whole_shapes_of_level_paper.Holds := by
  w_on; o_law; k_head; (case hw => w_witness2)
  k_fill
  refine Pi.law_end (l := PySem.Challenge.rw_seenbins_k13_whole_shapes_of_level_paper) (k := 3 * 60) (x := "script") (m := (Pi.cfg (K13.md K13.topP) 60).fns "law") (ts := K13.ts) rfl (by decide) rfl ⟨rfl, by decide, by decide⟩ (fun w h Y => by first | exact PySem.W.kIn_of Y | exact PySem.W.km_in_of Y) ?pRec ?pTabs ?pF K13.holds
  case pRec => exact List.forall_mem_cons.mpr ⟨⟨_, rfl⟩, fun _ h => nomatch h⟩
  case pTabs => exact fun w => by kernel_rfl
  intro w mg fa h KX G hmg
  refine Pi.fin (e0 := K13.n_law K13.topP) (g := K13.g K13.topP) K13.chk K13.inT rfl K13.inTs hmg ⟨?pRow, ?pW, ?pC, ?pX, ?pBl, K13.cs_all ?pCs⟩
  case pRow =>
    refine' List.forall_mem_cons.mpr ⟨?x0, List.forall_mem_cons.mpr ⟨?x1, List.forall_mem_cons.mpr ⟨?x2, List.forall_mem_cons.mpr ⟨?x3, List.forall_mem_cons.mpr ⟨?x4, List.forall_mem_cons.mpr ⟨?x5, List.forall_mem_cons.mpr ⟨?x6, List.forall_mem_cons.mpr ⟨?x7, List.forall_mem_cons.mpr ⟨?x8, List.forall_mem_cons.mpr ⟨?x9, List.forall_mem_cons.mpr ⟨?x10, List.forall_mem_cons.mpr ⟨?x11, List.forall_mem_cons.mpr ⟨?x12, List.forall_mem_cons.mpr ⟨?x13, List.forall_mem_cons.mpr ⟨?x14, List.forall_mem_cons.mpr ⟨?x15, List.forall_mem_cons.mpr ⟨?x16, List.forall_mem_cons.mpr ⟨?x17, List.forall_mem_cons.mpr ⟨?x18, List.forall_mem_cons.mpr ⟨?x19, List.forall_mem_cons.mpr ⟨?x20, List.forall_mem_cons.mpr ⟨?x21, List.forall_mem_cons.mpr ⟨?x22, List.forall_mem_cons.mpr ⟨?x23, List.forall_mem_cons.mpr ⟨?x24, List.forall_mem_cons.mpr ⟨?x25, List.forall_mem_cons.mpr ⟨?x26, List.forall_mem_cons.mpr ⟨?x27, List.forall_mem_cons.mpr ⟨?x28, List.forall_mem_cons.mpr ⟨?x29, List.forall_mem_cons.mpr ⟨?x30, List.forall_mem_cons.mpr ⟨?x31, List.forall_mem_cons.mpr ⟨?x32, List.forall_mem_cons.mpr ⟨?x33, List.forall_mem_cons.mpr ⟨?x34, List.forall_mem_cons.mpr ⟨?x35, List.forall_mem_cons.mpr ⟨?x36, List.forall_mem_cons.mpr ⟨?x37, List.forall_mem_cons.mpr ⟨?x38, List.forall_mem_cons.mpr ⟨?x39, List.forall_mem_cons.mpr ⟨?x40, List.forall_mem_cons.mpr ⟨?x41, List.forall_mem_cons.mpr ⟨?x42, fun _ h => nomatch h⟩⟩⟩⟩⟩⟩⟩⟩⟩⟩⟩⟩⟩⟩⟩⟩⟩⟩⟩⟩⟩⟩⟩⟩⟩⟩⟩⟩⟩⟩⟩⟩⟩⟩⟩⟩⟩⟩⟩⟩⟩⟩⟩
    (case x0 => refine' Pi.row_mk (e := K13.n_is_int K13.topP) KX G ?xa ?xl ?xc ?xk K13.b_is_int ?xt; (case xa => k_is); (case xl => k_is); (case xc => k_is); (case xk => k_is); (case xt => rfl))
    (case x1 => refine' Pi.row_mk (e := K13.n_is_within K13.topP) KX G ?xa ?xl ?xc ?xk K13.b_is_within ?xt; (case xa => k_is); (case xl => k_is); (case xc => k_is); (case xk => k_is); (case xt => rfl))
    (case x2 => refine' Pi.row_mk (e := K13.n_divisor K13.topP) KX G ?xa ?xl ?xc ?xk K13.b_divisor ?xt; (case xa => k_is); (case xl => k_is); (case xc => k_is); (case xk => k_is); (case xt => rfl))
    (case x3 => refine' Pi.row_mk (e := K13.n_multiple K13.topP) KX G ?xa ?xl ?xc ?xk K13.b_multiple ?xt; (case xa => k_is); (case xl => k_is); (case xc => k_is); (case xk => k_is); (case xt => rfl))
    (case x4 => refine' Pi.row_mk (e := K13.n_fraction K13.topP) KX G ?xa ?xl ?xc ?xk K13.b_fraction ?xt; (case xa => k_is); (case xl => k_is); (case xc => k_is); (case xk => k_is); (case xt => rfl))
    (case x5 => refine' Pi.row_mk (e := K13.n_is_fraction K13.topP) KX G ?xa ?xl ?xc ?xk K13.b_is_fraction ?xt; (case xa => k_is); (case xl => k_is); (case xc => k_is); (case xk => k_is); (case xt => rfl))
    (case x6 => refine' Pi.row_mk (e := K13.n_add K13.topP) KX G ?xa ?xl ?xc ?xk K13.b_add ?xt; (case xa => k_is); (case xl => k_is); (case xc => k_is); (case xk => k_is); (case xt => rfl))
    (case x7 => refine' Pi.row_mk (e := K13.n_negative K13.topP) KX G ?xa ?xl ?xc ?xk K13.b_negative ?xt; (case xa => k_is); (case xl => k_is); (case xc => k_is); (case xk => k_is); (case xt => rfl))
    (case x8 => refine' Pi.row_mk (e := K13.n_less_by K13.topP) KX G ?xa ?xl ?xc ?xk K13.b_less_by ?xt; (case xa => k_is); (case xl => k_is); (case xc => k_is); (case xk => k_is); (case xt => rfl))
    (case x9 => refine' Pi.row_mk (e := K13.n_product K13.topP) KX G ?xa ?xl ?xc ?xk K13.b_product ?xt; (case xa => k_is); (case xl => k_is); (case xc => k_is); (case xk => k_is); (case xt => rfl))
    (case x10 => refine' Pi.row_mk (e := K13.n_is_less K13.topP) KX G ?xa ?xl ?xc ?xk K13.b_is_less ?xt; (case xa => k_is); (case xl => k_is); (case xc => k_is); (case xk => k_is); (case xt => rfl))
    (case x11 => refine' Pi.row_mk (e := K13.n_lesser K13.topP) KX G ?xa ?xl ?xc ?xk K13.b_lesser ?xt; (case xa => k_is); (case xl => k_is); (case xc => k_is); (case xk => k_is); (case xt => rfl))
    (case x12 => refine' Pi.row_mk (e := K13.n_total K13.topP) KX G ?xa ?xl ?xc ?xk K13.b_total ?xt; (case xa => k_is); (case xl => k_is); (case xc => k_is); (case xk => k_is); (case xt => rfl))
    (case x13 => refine' Pi.row_mk (e := K13.n_dot K13.topP) KX G ?xa ?xl ?xc ?xk K13.b_dot ?xt; (case xa => k_is); (case xl => k_is); (case xc => k_is); (case xk => k_is); (case xt => rfl))
    (case x14 => refine' Pi.row_mk (e := K13.n_is_share K13.topP) KX G ?xa ?xl ?xc ?xk K13.b_is_share ?xt; (case xa => k_is); (case xl => k_is); (case xc => k_is); (case xk => k_is); (case xt => rfl))
    (case x15 => refine' Pi.row_mk (e := K13.n_is_bound K13.topP) KX G ?xa ?xl ?xc ?xk K13.b_is_bound ?xt; (case xa => k_is); (case xl => k_is); (case xc => k_is); (case xk => k_is); (case xt => rfl))
    (case x16 => refine' Pi.row_mk (e := K13.n_is_part_alone K13.topP) KX G ?xa ?xl ?xc ?xk K13.b_is_part_alone ?xt; (case xa => k_is); (case xl => k_is); (case xc => k_is); (case xk => k_is); (case xt => rfl))
    (case x17 => refine' Pi.row_mk (e := K13.n_found_bins K13.topP) KX G ?xa ?xl ?xc ?xk K13.b_found_bins ?xt; (case xa => k_is); (case xl => k_is); (case xc => k_is); (case xk => k_is); (case xt => rfl))
    (case x18 => refine' Pi.row_mk (e := K13.n_is_recipe K13.topP) KX G ?xa ?xl ?xc ?xk K13.b_is_recipe ?xt; (case xa => k_is); (case xl => k_is); (case xc => k_is); (case xk => k_is); (case xt => rfl))
    (case x19 => refine' Pi.row_mk (e := K13.n_check_recipe K13.topP) KX G ?xa ?xl ?xc ?xk K13.b_check_recipe ?xt; (case xa => k_is); (case xl => k_is); (case xc => k_is); (case xk => k_is); (case xt => rfl))
    (case x20 => refine' Pi.row_mk (e := K13.n_recipe_bins K13.topP) KX G ?xa ?xl ?xc ?xk K13.b_recipe_bins ?xt; (case xa => k_is); (case xl => k_is); (case xc => k_is); (case xk => k_is); (case xt => rfl))
    (case x21 => refine' Pi.row_mk (e := K13.n_is_prices K13.topP) KX G ?xa ?xl ?xc ?xk K13.b_is_prices ?xt; (case xa => k_is); (case xl => k_is); (case xc => k_is); (case xk => k_is); (case xt => rfl))
    (case x22 => refine' Pi.row_mk (e := K13.n_check_prices K13.topP) KX G ?xa ?xl ?xc ?xk K13.b_check_prices ?xt; (case xa => k_is); (case xl => k_is); (case xc => k_is); (case xk => k_is); (case xt => rfl))
    (case x23 => refine' Pi.row_mk (e := K13.n_by_value K13.topP) KX G ?xa ?xl ?xc ?xk K13.b_by_value ?xt; (case xa => k_is); (case xl => k_is); (case xc => k_is); (case xk => k_is); (case xt => rfl))
    (case x24 => refine' Pi.row_mk (e := K13.n_filled K13.topP) KX G ?xa ?xl ?xc ?xk K13.b_filled ?xt; (case xa => k_is); (case xl => k_is); (case xc => k_is); (case xk => k_is); (case xt => rfl))
    (case x25 => refine' Pi.row_mk (e := K13.n_least_cost K13.topP) KX G ?xa ?xl ?xc ?xk K13.b_least_cost ?xt; (case xa => k_is); (case xl => k_is); (case xc => k_is); (case xk => k_is); (case xt => rfl))
    (case x26 => refine' Pi.row_mk (e := K13.n_is_paper_of K13.topP) KX G ?xa ?xl ?xc ?xk K13.b_is_paper_of ?xt; (case xa => k_is); (case xl => k_is); (case xc => k_is); (case xk => k_is); (case xt => rfl))
    (case x27 => refine' Pi.row_mk (e := K13.n_is_paper K13.topP) KX G ?xa ?xl ?xc ?xk K13.b_is_paper ?xt; (case xa => k_is); (case xl => k_is); (case xc => k_is); (case xk => k_is); (case xt => rfl))
    (case x28 => refine' Pi.row_mk (e := K13.n_worth_of K13.topP) KX G ?xa ?xl ?xc ?xk K13.b_worth_of ?xt; (case xa => k_is); (case xl => k_is); (case xc => k_is); (case xk => k_is); (case xt => rfl))
    (case x29 => refine' Pi.row_mk (e := K13.n_is_floor K13.topP) KX G ?xa ?xl ?xc ?xk K13.b_is_floor ?xt; (case xa => k_is); (case xl => k_is); (case xc => k_is); (case xk => k_is); (case xt => rfl))
    (case x30 => refine' Pi.row_mk (e := K13.n__law_hand K13.topP) KX G ?xa ?xl ?xc ?xk K13.b__law_hand ?xt; (case xa => k_is); (case xl => k_is); (case xc => k_is); (case xk => k_is); (case xt => rfl))
    (case x31 => refine' Pi.row_mk (e := K13.n__law_draw K13.topP) KX G ?xa ?xl ?xc ?xk K13.b__law_draw ?xt; (case xa => k_is); (case xl => k_is); (case xc => k_is); (case xk => k_is); (case xt => rfl))
    (case x32 => refine' Pi.row_mk (e := K13.n__law_any K13.topP) KX G ?xa ?xl ?xc ?xk K13.b__law_any ?xt; (case xa => k_is); (case xl => k_is); (case xc => k_is); (case xk => k_is); (case xt => rfl))
    (case x33 => refine' Pi.row_mk (e := K13.n__law_frac K13.topP) KX G ?xa ?xl ?xc ?xk K13.b__law_frac ?xt; (case xa => k_is); (case xl => k_is); (case xc => k_is); (case xk => k_is); (case xt => rfl))
    (case x34 => refine' Pi.row_mk (e := K13.n__law_recipe K13.topP) KX G ?xa ?xl ?xc ?xk K13.b__law_recipe ?xt; (case xa => k_is); (case xl => k_is); (case xc => k_is); (case xk => k_is); (case xt => rfl))
    (case x35 => refine' Pi.row_mk (e := K13.n__law_drawn K13.topP) KX G ?xa ?xl ?xc ?xk K13.b__law_drawn ?xt; (case xa => k_is); (case xl => k_is); (case xc => k_is); (case xk => k_is); (case xt => rfl))
    (case x36 => refine' Pi.row_mk (e := K13.n__law_bins K13.topP) KX G ?xa ?xl ?xc ?xk K13.b__law_bins ?xt; (case xa => k_is); (case xl => k_is); (case xc => k_is); (case xk => k_is); (case xt => rfl))
    (case x37 => refine' Pi.row_mk (e := K13.n__law_is K13.topP) KX G ?xa ?xl ?xc ?xk K13.b__law_is ?xt; (case xa => k_is); (case xl => k_is); (case xc => k_is); (case xk => k_is); (case xt => rfl))
    (case x38 => refine' Pi.row_mk (e := K13.n__law_odd K13.topP) KX G ?xa ?xl ?xc ?xk K13.b__law_odd ?xt; (case xa => k_is); (case xl => k_is); (case xc => k_is); (case xk => k_is); (case xt => rfl))
    (case x39 => refine' Pi.row_mk (e := K13.n__law_paper K13.topP) KX G ?xa ?xl ?xc ?xk K13.b__law_paper ?xt; (case xa => k_is); (case xl => k_is); (case xc => k_is); (case xk => k_is); (case xt => rfl))
    (case x40 => refine' Pi.row_mk (e := K13.n__law_bent K13.topP) KX G ?xa ?xl ?xc ?xk K13.b__law_bent ?xt; (case xa => k_is); (case xl => k_is); (case xc => k_is); (case xk => k_is); (case xt => rfl))
    (case x41 => refine' Pi.row_mk (e := K13.n__law_is_shape K13.topP) KX G ?xa ?xl ?xc ?xk K13.b__law_is_shape ?xt; (case xa => k_is); (case xl => k_is); (case xc => k_is); (case xk => k_is); (case xt => rfl))
    (case x42 => refine' Pi.row_mk (e := K13.n_law K13.topP) KX G ?xa ?xl ?xc ?xk K13.b_law ?xt; (case xa => k_is); (case xl => k_is); (case xc => k_is); (case xk => k_is); (case xt => kernel_rfl))
  case pW =>
    refine' List.forall_mem_cons.mpr ⟨?x0, fun _ h => nomatch h⟩
    (case x0 => refine' Pi.rowW_mk (e := K13.w__law_word K13.topP) KX G ?xa ?xl ?xc ?xk K13.bw__law_word; (case xa => k_is); (case xl => k_is); (case xc => k_is); (case xk => k_is))
  case pC =>
    refine' List.forall_mem_cons.mpr ⟨?x0, fun _ h => nomatch h⟩
    (case x0 => refine' List.forall_mem_cons.mpr ⟨?y0, List.forall_mem_cons.mpr ⟨?y1, fun _ h => nomatch h⟩⟩; (case y0 => exact Pi.cls_mk KX G (by kernel_rfl)); (case y1 => exact Pi.cls_mk KX G (by kernel_rfl)))
  case pX =>
    refine' List.forall_mem_cons.mpr ⟨?x0, List.forall_mem_cons.mpr ⟨?x1, fun _ h => nomatch h⟩⟩
    (case x0 => exact Pi.exc_mk KX G (by kernel_rfl))
    (case x1 => exact Pi.exc_mk KX G (by kernel_rfl))
  case pBl =>
    refine' List.forall_mem_cons.mpr ⟨?x0, List.forall_mem_cons.mpr ⟨?x1, List.forall_mem_cons.mpr ⟨?x2, List.forall_mem_cons.mpr ⟨?x3, List.forall_mem_cons.mpr ⟨?x4, List.forall_mem_cons.mpr ⟨?x5, List.forall_mem_cons.mpr ⟨?x6, List.forall_mem_cons.mpr ⟨?x7, List.forall_mem_cons.mpr ⟨?x8, List.forall_mem_cons.mpr ⟨?x9, List.forall_mem_cons.mpr ⟨?x10, List.forall_mem_cons.mpr ⟨?x11, List.forall_mem_cons.mpr ⟨?x12, List.forall_mem_cons.mpr ⟨?x13, List.forall_mem_cons.mpr ⟨?x14, List.forall_mem_cons.mpr ⟨?x15, List.forall_mem_cons.mpr ⟨?x16, fun _ h => nomatch h⟩⟩⟩⟩⟩⟩⟩⟩⟩⟩⟩⟩⟩⟩⟩⟩⟩
    (case x0 => refine' PySem.W.mg_none_of (n := "abs") KX G ?xa; (case xa => k_is))
    (case x1 => refine' PySem.W.mg_none_of (n := "all") KX G ?xa; (case xa => k_is))
    (case x2 => refine' PySem.W.mg_none_of (n := "any") KX G ?xa; (case xa => k_is))
    (case x3 => refine' PySem.W.mg_none_of (n := "bool") KX G ?xa; (case xa => k_is))
    (case x4 => refine' PySem.W.mg_none_of (n := "enumerate") KX G ?xa; (case xa => k_is))
    (case x5 => refine' PySem.W.mg_none_of (n := "int") KX G ?xa; (case xa => k_is))
    (case x6 => refine' PySem.W.mg_none_of (n := "isinstance") KX G ?xa; (case xa => k_is))
    (case x7 => refine' PySem.W.mg_none_of (n := "len") KX G ?xa; (case xa => k_is))
    (case x8 => refine' PySem.W.mg_none_of (n := "list") KX G ?xa; (case xa => k_is))
    (case x9 => refine' PySem.W.mg_none_of (n := "max") KX G ?xa; (case xa => k_is))
    (case x10 => refine' PySem.W.mg_none_of (n := "min") KX G ?xa; (case xa => k_is))
    (case x11 => refine' PySem.W.mg_none_of (n := "range") KX G ?xa; (case xa => k_is))
    (case x12 => refine' PySem.W.mg_none_of (n := "repr") KX G ?xa; (case xa => k_is))
    (case x13 => refine' PySem.W.mg_none_of (n := "sorted") KX G ?xa; (case xa => k_is))
    (case x14 => refine' PySem.W.mg_none_of (n := "sum") KX G ?xa; (case xa => k_is))
    (case x15 => refine' PySem.W.mg_none_of (n := "tuple") KX G ?xa; (case xa => k_is))
    (case x16 => refine' PySem.W.mg_none_of (n := "zip") KX G ?xa; (case xa => k_is))
  case pCs =>
    refine' List.forall_mem_cons.mpr ⟨?x0, List.forall_mem_cons.mpr ⟨?x1, List.forall_mem_cons.mpr ⟨?x2, List.forall_mem_cons.mpr ⟨?x3, List.forall_mem_cons.mpr ⟨?x4, List.forall_mem_cons.mpr ⟨?x5, List.forall_mem_cons.mpr ⟨?x6, fun _ h => nomatch h⟩⟩⟩⟩⟩⟩⟩
    (case x0 => refine' Pi.cs_int (x := "MOST_BIN") KX G ?xa; (case xa => k_is))
    (case x1 => refine' Pi.cs_int (x := "MOST_DEPTH") KX G ?xa; (case xa => k_is))
    (case x2 => refine' Pi.cs_int (x := "MOST_PARTS") KX G ?xa; (case xa => k_is))
    (case x3 => refine' Pi.cs_int (x := "MOST_PRICES") KX G ?xa; (case xa => k_is))
    (case x4 => refine' Pi.cs_int (x := "MOST_UNDER") KX G ?xa; (case xa => k_is))
    (case x5 => refine' Pi.cs_tup2 (x := "ONE") KX G ?xa ?xb; (case xa => k_is); (case xb => k_is))
    (case x6 => refine' Pi.cs_tup2 (x := "ZERO") KX G ?xa ?xb; (case xa => k_is); (case xb => k_is))
